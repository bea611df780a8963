/- A call, second part: the caller takes over what the callee leaves. -/
import Derived.KernelRfl
import Derived.WalkKit
import Derived.Orders
import Derived.Below
import Derived.Laws.AppendOwn
import Derived.Laws.Small
import Derived.Laws.CopyRow
import Derived.Laws.BytesString
set_option maxHeartbeats 2000000
set_option linter.all false
/- The abstract program logic 'Pv': values that carry the contents of slices, a local store of blocks, and what a call comes to, as a least fixed point. Definitions alone. -/
namespace Go.Pv
open Go

/-- Who may append to a slice in place: nobody that we know of, the holder, or it is nil. -/
inductive Ow where
  | no | yes | nil
  deriving DecidableEq

/-- A slice's elements: how many cells each has, and of which type the row is. -/
structure SlT where
  n : Nat
  e : TypeId
  deriving DecidableEq, Inhabited
instance : Coe SlT Nat := ⟨SlT.n⟩

inductive AV where
  | int (k : IntKind) (n : Int)
  | bool (b : Bool)
  | str (s : List UInt8)
  | ptr (b off : Nat)
  | nilp
  | ptrOpt (b off : Nat)
  | ref (cs : List AV)
  | sl (o : Ow) (sz : SlT) (l : List AV)
  | fn (f : Nat) (first cap : List AV)
  | nilf
  | iface (t : TypeId) (v : AV)
  | nili
  | agg (cs : List AV)
  | tup (vs : List AV)
  | iter (b : Nat)
  | undef
  | bad
  deriving Inhabited

inductive Blk where
  | cells (T : TypeId) (l : List AV)
  | siter (s : List UInt8) (pos : Nat)
  deriving Inhabited

inductive Src where
  | slot (o : Nat)
  | cell (b off : Nat)

def AV.cells : AV → List AV
  | .agg cs => cs
  | v => [v]

/-- The value without the right to append in place. -/
def weak : AV → AV
  | .sl .yes sz l => .sl .no sz l
  | v => v
def canon0 : AV → AV
  | .sl _ sz l => .sl .no sz l
  | v => v
def canon1 : AV → AV
  | .agg cs => .agg (cs.map canon0)
  | v => canon0 v
/-- The value as it is told to others. -/
def canon : AV → AV
  | .tup vs => .tup (vs.map canon1)
  | v => canon1 v
/-- A nil slice in a variable: its holder may append. -/
def prom : AV → AV
  | .sl .nil sz l => .sl .yes sz l
  | v => v

def promW (v : AV) : AV := prom (weak v)
/-- A value's cells, as they are laid: a slice takes its right along. -/
def stCells : AV → List AV
  | .agg cs => cs.map promW
  | v => [prom v]

/-! ### Renaming of blocks -/
def ren0 (ks : List Nat) : AV → AV
  | .ptr b off => match ks[b]? with | some k => .ptr k off | none => .bad
  | .ptrOpt b off => match ks[b]? with | some k => .ptrOpt k off | none => .bad
  | .iter b => match ks[b]? with | some k => .iter k | none => .bad
  | v => v
def ren1 (ks : List Nat) : AV → AV
  | .fn f first cap => .fn f (first.map (ren0 ks)) (cap.map (ren0 ks))
  | v => ren0 ks v
def ren2 (ks : List Nat) : AV → AV
  | .agg cs => .agg (cs.map (ren1 ks))
  | v => ren1 ks v
def ren (ks : List Nat) : AV → AV
  | .tup vs => .tup (vs.map (ren2 ks))
  | v => ren2 ks v
def renB (ks : List Nat) : Blk → Blk
  | .cells T l => .cells T (l.map (ren1 ks))
  | b => b

/-! ### What the program's tables tell -/
section tables
variable (P : Program)
def esz (T : TypeId) : Option SlT := match P.underlying T with
  | some (.slice e) => (P.info? e).map fun i => ⟨i.size, e⟩
  | _ => none
def ebytes (T : TypeId) : Option Nat := match P.underlying T with
  | some (.slice e) => (P.info? e).map (·.bytes)
  | _ => none
/-- The element's size, and the length, of an array. -/
def arr (T : TypeId) : Option (Nat × Nat) := match P.underlying T with
  | some (.array n e) => (P.info? e).map (fun i => (n, i.size))
  | _ => none
def tsz (T : TypeId) : Option Nat := (P.info? T).map (·.size)
def aggB (T : TypeId) : Option Bool := match P.underlying T with
  | some (.struct _) => some true
  | some (.array _ _) => some true
  | some _ => some false
  | none => none
/-- A field: its place, its size, is it an aggregate? -/
def fld (T : TypeId) (i : Nat) : Option (Nat × Nat × Bool) := match P.underlying T with
  | some (.struct fs) => match fs[i]? with
    | some f => match tsz P f.type, aggB P f.type with
      | some n, some b => some (f.offset, n, b)
      | _, _ => none
    | none => none
  | _ => none
def flds (T : TypeId) : Option (List (Nat × Nat)) := match P.underlying T with
  | some (.struct fs) => fs.toList.mapM fun f => (tsz P f.type).map fun n => (f.offset, n)
  | _ => none
def fldTypes (T : TypeId) : List TypeId := match P.underlying T with
  | some (.struct fs) => fs.toList.map (·.type)
  | some (.array n e) => List.replicate n e
  | _ => []
/-- The leaf types of a type's cells. -/
def leafs : Nat → TypeId → List TypeId
  | 0, _ => []
  | d + 1, T => match P.underlying T with
    | some (.struct fs) => fs.toList.flatMap fun f => leafs d f.type
    | some (.array n e) => (List.replicate n e).flatMap fun t => leafs d t
    | _ => [T]
/-- A constant or a zero value at a type that is no aggregate. -/
def leafA (T : TypeId) (v : Value) : Option AV := match v with
  | .bool b => some (.bool b)
  | .int k n => some (.int k n)
  | .string s => some (.str s.data.toList)
  | .pointer none => some .nilp
  | .slice none 0 0 => (esz P T).map fun n => .sl .nil n []
  | .nilFunc => some .nilf
  | .nilIface => some .nili
  | _ => none
def zipLeaf : List TypeId → List Value → Option (List AV)
  | [], [] => some []
  | t :: ts, v :: vs => match leafA P t v, zipLeaf ts vs with
    | some a, some l => some (a :: l)
    | _, _ => none
  | _, _ => none
def zeroA (T : TypeId) : Option (List AV) := match P.info? T with
  | some i => match i.zero with
    | some z => zipLeaf P (leafs P 20 T) z.cells.toList
    | none => none
  | none => none
def isInt (T : TypeId) : Bool := match P.underlying T with
  | some (.int _) => true
  | _ => false
end tables

/-! ### States inside a region -/
structure St where
  env : Nat → AV
  al : Nat → Option Src
  st : List Blk

def invT (d : Nat) (al : Nat → Option Src) : Nat → Option Src := fun t => if t = d then none else match al t with
  | some (.slot o) => if o = d then none else some (.slot o)
  | r => r
def invB (bs : List Nat) (al : Nat → Option Src) : Nat → Option Src := fun t => match al t with
  | some (.cell b off) => if b ∈ bs then none else some (.cell b off)
  | r => r
def upd (e : Nat → AV) (d : Nat) (v : AV) : Nat → AV := fun t => if t = d then v else e t
def setAl (al : Nat → Option Src) (d : Nat) (r : Option Src) : Nat → Option Src := fun t => if t = d then r else invT d al t
def St.put (s : St) (d : Option Nat) (v : AV) (r : Option Src) : St := match d with
  | some d => { s with env := upd s.env d v, al := setAl s.al d r }
  | none => s
def St.kill (s : St) : Operand → St
  | .tmp t => { s with env := upd s.env t (weak (s.env t)) }
  | _ => s

/-- An operand's value, at a type. -/
def ev (P : Program) (env : Nat → AV) (T : TypeId) : Operand → AV
  | .tmp t => env t
  | .const v => (leafA P T v).getD .undef
  | .func f => .fn f [] []
  | .global _ => .undef
def srcOf : Operand → Option Src
  | .tmp t => some (.slot t)
  | _ => none

def cellsAt (σ : List Blk) (b : Nat) : Option (List AV) := match σ[b]? with
  | some (.cells _ l) => some l
  | _ => none
def setB (σ : List Blk) (b : Nat) (cs : List AV) : List Blk := match σ[b]? with
  | some (.cells T _) => σ.set b (.cells T cs)
  | _ => σ
def cellAt (σ : List Blk) (b off : Nat) : Option AV := match cellsAt σ b with
  | some l => l[off]?
  | none => none

def strLim : Nat := 4611686018427387904
def lenLim : Nat := 4294967296
def byteLim : Nat := 16384

/-- The cells of a value at a type, out of a row of cells. -/
def takeA (P : Program) (T : TypeId) (cs : List AV) : Option AV := match aggB P T, tsz P T with
  | some true, some n => if n ≤ cs.length then some (.agg ((cs.take n).map weak)) else none
  | some false, _ => (cs[0]?).map weak
  | _, _ => none

/-- May it be laid into cells? -/
def stoA : AV → Bool
  | .undef => false
  | .bad => false
  | .tup _ => false
  | _ => true

/-- No block of ours in it. -/
def leafB : AV → Bool
  | .int _ _ => true
  | .bool _ => true
  | .str _ => true
  | .nilp => true
  | .ref _ => true
  | .sl _ _ _ => true
  | .nilf => true
  | .iface _ _ => true
  | .nili => true
  | _ => false
/-- May a function value capture it? -/
def capB : AV → Bool
  | .ptr _ _ => true
  | .ptrOpt _ _ => true
  | v => leafB v
def flatB : AV → Bool
  | .agg cs => cs.all leafB
  | v => leafB v

/-! ### Operators -/
def eqCell : AV → AV → Option Bool
  | .int k a, .int k' b => if k = k' then some (a == b) else none
  | .bool a, .bool b => some (a == b)
  | .str a, .str b => some (a == b)
  | _, _ => none

def binI (op : BinOp) (k : IntKind) (a b : Int) : Option AV := match op with
  | .add => some (.int k (k.wrap (a + b)))
  | .sub => some (.int k (k.wrap (a - b)))
  | .mul => some (.int k (k.wrap (a * b)))
  | .quo => if b = 0 then none else some (.int k (k.wrap (a.tdiv b)))
  | .rem => if b = 0 then none else some (.int k (a.tmod b))
  | .and => some (.int k (k.wrap (BitVec.ofInt k.bits a &&& BitVec.ofInt k.bits b).toNat))
  | .or => some (.int k (k.wrap (BitVec.ofInt k.bits a ||| BitVec.ofInt k.bits b).toNat))
  | .xor => some (.int k (k.wrap (BitVec.ofInt k.bits a ^^^ BitVec.ofInt k.bits b).toNat))
  | .andNot => some (.int k (k.wrap (BitVec.ofInt k.bits a &&& ~~~ BitVec.ofInt k.bits b).toNat))
  | .eql => some (.bool (a == b))
  | .neq => some (.bool (a != b))
  | .lss => some (.bool (decide (a < b)))
  | .leq => some (.bool (decide (a ≤ b)))
  | .gtr => some (.bool (decide (a > b)))
  | .geq => some (.bool (decide (a ≥ b)))
  | _ => none

def binS (op : BinOp) (a b : List UInt8) : Option AV := match op with
  | .add => if a.length + b.length ≤ strLim then some (.str (a ++ b)) else none
  | .eql => some (.bool (a == b))
  | .neq => some (.bool (!(a == b)))
  | .lss => some (.bool (Op.bytesLess a b))
  | .leq => some (.bool (Op.bytesLess a b || a == b))
  | .gtr => some (.bool (!(Op.bytesLess a b || a == b)))
  | .geq => some (.bool (!(Op.bytesLess a b)))
  | _ => none

/-- What kind of type two operands that are not words have. -/
def kindT (P : Program) (T : TypeId) : Nat := match P.underlying T with
  | some .bool => 1
  | some (.interface _) => 2
  | some (.func _ _ _) => 3
  | some (.pointer _) => 4
  | _ => 0

def eqA (kd : Nat) : AV → AV → Option Bool
  | .bool a, .bool b => if kd = 1 then some (a == b) else none
  | .iface _ _, .nili => if kd = 2 then some false else none
  | .fn _ _ _, .nilf => if kd = 3 then some false else none
  | .nilf, .nilf => if kd = 3 then some true else none
  | .ptr _ _, .nilp => if kd = 4 then some false else none
  | .nilp, .nilp => if kd = 4 then some true else none
  | _, _ => none

def binA (kd : Nat) (op : BinOp) (x y : AV) : Option AV := match x, y with
  | .int k a, .int k' b => match op with
    | .shl => if b < 0 then none else some (.int k (k.wrap (a * 2 ^ (min b.toNat k.bits))))
    | .shr => if b < 0 then none else some (.int k (a.fdiv (2 ^ (min b.toNat k.bits))))
    | op => if k = k' then binI op k a b else none
  | .str a, .str b => binS op a b
  | x, y => match op with
    | .eql => (eqA kd x y).map .bool
    | .neq => (eqA kd x y).map fun b => .bool (!b)
    | _ => none

def isC : Operand → Bool
  | .const _ => true
  | _ => false
/-- Two cells of a struct, by the field's type. -/
def eqLeaf (u : Option TypeDesc) (x y : AV) : Option Bool := match u, x, y with
  | some .bool, .bool a, .bool b => some (a == b)
  | some (.int _), .int k a, .int k' b => if k = k' then some (a == b) else none
  | some .string, .str a, .str b => some (a == b)
  | _, _, _ => none
def eqFlds (P : Program) (a b : List AV) : List Field → Option Bool
  | [] => some true
  | f :: fs => if f.name = "_" then none else match aggB P f.type, a[f.offset]?, b[f.offset]? with
    | some false, some x, some y => match eqLeaf (P.underlying f.type) x y with
      | some true => eqFlds P a b fs
      | some false => some false
      | none => none
    | _, _, _ => none
def eqAgg (P : Program) (T : TypeId) (a b : List AV) : Option Bool := match P.underlying T with
  | some (.struct fs) => if P.eqGuardType P.depth T = false ∧ P.stoodInHeld T = false then eqFlds P a b fs.toList else none
  | _ => none
def eqRes (op : BinOp) (r : Bool) : Option AV := match op with
  | .eql => some (.bool r)
  | .neq => some (.bool (!r))
  | _ => none
def ptrOk (P : Program) (T : TypeId) : Bool := match P.underlying T with
  | some (.pointer e) => (tsz P e).isSome
  | _ => false
/-- As 'binA'; two nil interfaces, one of them a constant; two structs; a pointer and itself. -/
def binX (P : Program) (op : BinOp) (T : TypeId) (c : Bool) (x y : AV) : Option AV := match x, y with
  | .nili, .nili => if c = true ∧ kindT P T = 2 then eqRes op true else none
  | .agg a, .agg b => match eqAgg P T a b with
    | some r => eqRes op r
    | none => none
  | .ptr a b, .ptr c d => if a = c ∧ b = d ∧ ptrOk P T = true then eqRes op true else none
  | x, y => binA (kindT P T) op x y

def unA (op : UnOp) (x : AV) : Option AV := match op, x with
  | .neg, .int k n => some (.int k (k.wrap (0 - n)))
  | .xor, .int k n => binI .xor k (if k.signed then -1 else k.max) n
  | .not, .bool b => some (.bool (!b))
  | _, _ => none

def bytesA : List AV → Option (List UInt8)
  | [] => some []
  | .int .u8 n :: l => (bytesA l).map fun t => UInt8.ofNat n.toNat :: t
  | _ :: _ => none

def convA (P : Program) (src dst : TypeId) (x : AV) : Option AV := match P.underlying src, P.underlying dst, x with
  | some (.int _), some (.int k), .int _ n => some (.int k (k.wrap n))
  | some .string, some .string, .str s => some (.str s)
  | some .string, some (.slice e), .str s => match P.underlying e with
    | some (.int .u8) => if s.length ≤ lenLim then some (.sl .yes ⟨1, e⟩ (s.map fun c => .int .u8 c.toNat)) else none
    | _ => none
  | some (.slice e), some .string, .sl _ ⟨1, _⟩ l => match P.underlying e with
    | some (.int .u8) => (bytesA l).map .str
    | _ => none
  | _, _, _ => none

/-- A pointer, seen as one without a type, and back. -/
def convP (P : Program) (u v : Option TypeDesc) (c : Option Blk) (b off : Nat) : Option AV := match u, v, c with
  | some (.pointer t), some .unsafePointer, some (.cells _ l) => match tsz P t with
    | some (_ + 1) => if off < l.length then some (.ptr b off) else none
    | _ => none
  | some .unsafePointer, some (.pointer t), some (.cells T l) => match tsz P t with
    | some (_ + 1) => if liesAt P P.depth T (l.length / P.cellsOf T) off t 1 = true then some (.ptr b off) else none
    | _ => none
  | _, _, _ => none
def convX (P : Program) (σ : List Blk) (src dst : TypeId) (x : AV) : Option AV := match x with
  | .ptr b off => convP P (P.underlying src) (P.underlying dst) σ[b]? b off
  | x => convA P src dst x

/-- Whole number bounds of a cut. -/
def cutB (len : Nat) (lo hi : Option AV) : Option (Nat × Nat) :=
  match (match hi with | some (.int _ h) => if 0 ≤ h ∧ h ≤ len then some h.toNat else none | some _ => none | none => some len) with
  | none => none
  | some h => match lo with
    | some (.int _ l) => if 0 ≤ l ∧ l ≤ h then some (l.toNat, h) else none
    | some _ => none
    | none => some (0, h)

def buildA (P : Program) (env : Nat → AV) (fs : List (Nat × Nat)) (ts : List TypeId) : List AV → List (Nat × Operand) → Option (List AV)
  | cs, [] => some cs
  | cs, (i, x) :: l => match fs[i]?, ts[i]? with
    | some (off, n), some T =>
      let vs := (weak (ev P env T x)).cells
      if vs.length = n ∧ off + n ≤ cs.length ∧ stoA (ev P env T x) = true then buildA P env fs ts (cs.take off ++ vs ++ cs.drop (off + n)) l else none
    | _, _ => none

/-- The elements of a slice that is laid whole: one value for each index, in order. -/
def buildL (P : Program) (env : Nat → AV) (sz : Nat) (T : TypeId) : Nat → List (Nat × Operand) → Option (List AV)
  | _, [] => some []
  | k, (i, x) :: l =>
    let v := canon (ev P env T x)
    if i = k ∧ v.cells.length = sz ∧ flatB v = true then (buildL P env sz T (k + 1) l).map (v :: ·) else none

/-- Builtins that only tell a number. -/
def bltA (P : Program) (env : Nat → AV) (b : Builtin) (xs : List Operand) (ts : List TypeId) : Option AV := match b, xs, ts with
  | .len, [x], [T] => match P.underlying T, ev P env T x with
    | some .string, .str s => some (.int .i64 s.length)
    | some (.slice _), .sl _ _ l => some (.int .i64 l.length)
    | _, _ => none
  | .min, [x, y], _ => match ev P env 0 x, ev P env 0 y with
    | .int k a, .int k' b => if k = k' then some (.int k (if b < a then b else a)) else none
    | _, _ => none
  | .max, [x, y], _ => match ev P env 0 x, ev P env 0 y with
    | .int k a, .int k' b => if k = k' then some (.int k (if b > a then b else a)) else none
    | _, _ => none
  | _, _, _ => none

def loadV (P : Program) (σ : List Blk) (T : TypeId) (a : AV) : Option AV := match a with
  | .ptr b off => match cellsAt σ b with
    | some l => takeA P T (l.drop off)
    | none => none
  | .ref cs => takeA P T cs
  | _ => none
def faddrV (P : Program) (T : TypeId) (i : Nat) (a : AV) : Option AV := match fld P T i, a with
  | some (off, _ + 1, _), .ptr b o => some (.ptr b (o + off))
  | some (off, _ + 1, _), .ref cs => some (.ref (cs.drop off))
  | _, _ => none
def fieldV (P : Program) (T : TypeId) (i : Nat) (a : AV) : Option AV := match fld P T i, a with
  | some (off, n, true), .agg cs => if off + n ≤ cs.length then some (.agg ((cs.drop off).take n)) else none
  | some (off, _, false), .agg cs => (cs[off]?).map weak
  | _, _ => none
def iaddrV (P : Program) (T : TypeId) (a b : AV) : Option AV := match a, b with
  | .sl _ sz l, .int _ n => if esz P T = some sz ∧ 0 ≤ n then match l[n.toNat]? with
      | some a => some (.ref a.cells)
      | none => none
    else none
  | .ptr b off, .int _ n => match arr P T with
    | some (len, sz) => if 0 ≤ n ∧ n < len then some (.ptr b (off + n.toNat * sz)) else none
    | none => none
  | _, _ => none
def indexV (a b : AV) : Option AV := match a, b with
  | .str s, .int _ n => if 0 ≤ n then match s[n.toNat]? with
      | some c => some (.int .u8 c.toNat)
      | none => none
    else none
  | _, _ => none

/-- An operation that touches no block of ours: its value. -/
def opVal (P : Program) (env : Nat → AV) (σ : List Blk) (o : Oper) : Option AV := match o.op with
  | .move x => some (weak (ev P env o.type x))
  | .pick c a b => match ev P env 0 c with
    | .bool t => some (bif t then weak (ev P env o.type a) else weak (ev P env o.type b))
    | _ => none
  | .load T a => loadV P σ T (ev P env 0 a)
  | .nilCheck x => match ev P env 0 x with
    | .ptr b off => some (.ptr b off)
    | .ref cs => some (.ref cs)
    | .fn f a c => some (.fn f a c)
    | _ => none
  | .binOp op T x y _ => binX P op T (isC x || isC y) (ev P env 0 x) (ev P env 0 y)
  | .unOp op _ x => unA op (ev P env 0 x)
  | .convert src dst x => convX P σ src dst (ev P env src x)
  | .makeInterface T x => match P.underlying T with
    | some (.interface _) => none
    | some _ => match ev P env T x with
      | .int k n => some (.iface T (.int k n))
      | .bool b => some (.iface T (.bool b))
      | .str s => some (.iface T (.str s))
      | _ => none
    | none => none
  | .makeFunc (.func f) first cap => if (first.toList.map (ev P env 0)).all capB = true ∧ (cap.toList.map (ev P env 0)).all capB = true then some (.fn f (first.toList.map (ev P env 0)) (cap.toList.map (ev P env 0))) else none
  | .extract x i => match ev P env 0 x with
    | .tup vs => (vs[i]?).map canon1
    | _ => none
  | .fieldAddr T x i => faddrV P T i (ev P env 0 x)
  | .field T x i => fieldV P T i (ev P env 0 x)
  | .indexAddr T x i => iaddrV P T (ev P env 0 x) (ev P env 0 i)
  | .index T x i => match P.underlying T with
    | some .string => indexV (ev P env 0 x) (ev P env 0 i)
    | _ => none
  | .slice T x lo hi none => match ev P env T x with
    | .str s => match P.underlying T with
      | some .string => (cutB s.length (lo.map (ev P env 0)) (hi.map (ev P env 0))).map fun ab => .str ((s.take ab.2).drop ab.1)
      | _ => none
    | .sl _ sz l => if esz P T = some sz then (cutB l.length (lo.map (ev P env 0)) (hi.map (ev P env 0))).map fun ab => .sl .no sz ((l.take ab.2).drop ab.1) else none
    | _ => none
  | .build T parts => match flds P T, zeroA P T with
    | some fs, some z => (buildA P env fs (fldTypes P T) z parts.toList).map .agg
    | _, _ => none
  | .buildSlice T n parts => match P.underlying T with
    | some (.slice e) => match tsz P e with
      | some sz => if parts.size = n ∧ n ≤ 1000 ∧ sz ≤ 1000 ∧ (zeroA P e).isSome = true then (buildL P env sz e 0 parts.toList).map (.sl .yes ⟨sz, e⟩) else none
      | none => none
    | _ => none
  | .call c => match c.callee with
    | .builtin b => bltA P env b c.args.toList c.argTypes.toList
    | _ => none
  | _ => none

def opSrc (P : Program) (env : Nat → AV) (o : Oper) : Option Src := match o.op with
  | .move x => srcOf x
  | .load T a => match aggB P T, ev P env 0 a with
    | some false, .ptr b off => some (.cell b off)
    | _, _ => none
  | _ => none

/-! ### Calls -/
abbrev CallRel := Nat → List AV → List Blk → AV → List Blk → Prop

/-- The blocks that a callee is handed, in its own numbers. -/
def handed (σ : List Blk) (ids : List Nat) (σi : List Blk) : Prop :=
  σi.length = ids.length ∧ ∀ (i k : Nat), ids[i]? = some k → ∃ b : Blk, σi[i]? = some b ∧ σ[k]? = some (renB ids b)
/-- The caller's numbers of the blocks that a callee leaves. -/
def backIds (σ : List Blk) (ids : List Nat) (n : Nat) : List Nat := ids ++ List.range' σ.length (n - ids.length)
def mergeB (ids' : List Nat) : List Nat → List Blk → List Blk → List Blk
  | k :: ids, b :: out, σ => mergeB ids' ids out (σ.set k (renB ids' b))
  | [], out, σ => σ ++ out.map (renB ids')
  | _ :: _, [], σ => σ

def callW (C : CallRel) (f : Nat) (args : List AV) (s : St) (dst : Option Nat) (K : St → Prop) : Prop :=
  ∃ (ids : List Nat) (args' : List AV) (σi : List Blk) (r : AV) (σo : List Blk),
    ids.Nodup ∧ args.map canon = args'.map (ren ids) ∧ handed s.st ids σi ∧ C f args' σi r σo ∧ ids.length ≤ σo.length ∧
    K ({ s with st := mergeB (backIds s.st ids σo.length) ids σo s.st, al := invB ids s.al }.put dst (ren (backIds s.st ids σo.length) r) none)

/-- May slices of this type be appended to? The element's size. -/
def appTy (P : Program) (T : TypeId) : Option SlT := match P.underlying T with
  | some (.slice e) => match P.info? e with
    | some i => match i.zero with
      | some z => if z.cells.size = i.size ∧ i.bytes ≤ byteLim then some ⟨i.size, e⟩ else none
      | none => none
    | none => none
  | _ => none
def appendTo (P : Program) (T : TypeId) (sz : SlT) (l ys : List AV) : Prop := appTy P T = some sz ∧ l.length + ys.length ≤ lenLim
/-- May it stand behind: a slice, a text? -/
def appArg (P : Program) (T : TypeId) : Bool := match P.underlying T with
  | some (.slice _) => true
  | some .string => true
  | _ => false
/-- What is appended: a slice's elements, or a text's bytes. -/
def appElems : AV → Option (Nat × List AV)
  | .sl _ sz l => some (sz, l)
  | .str s => some (1, s.map fun c => .int .u8 c.toNat)
  | _ => none

def appendW (P : Program) (T : TypeId) (x : Operand) (ys : Option (Nat × List AV)) (s : St) (dst : Option Nat) (K : St → Prop) : Prop :=
  match ys with
  | none => False
  | some (sz', ys) => match x with
    | .const (.slice none 0 0) => match appTy P T with
      | some sz => (sz' = sz ∨ ys = []) ∧ appendTo P T sz [] ys ∧ K (s.put dst (.sl .yes sz ys) none)
      | none => False
    | .tmp m => match s.env m with
      | .sl .yes sz l => (sz' = sz ∨ ys = []) ∧ appendTo P T sz l ys ∧ K ((s.kill (.tmp m)).put dst (.sl .yes sz (l ++ ys)) none)
      | .sl .nil sz l => (sz' = sz ∨ ys = []) ∧ appendTo P T sz l ys ∧ K (s.put dst (.sl .yes sz (l ++ ys)) none)
      | .sl .no _ _ => match s.al m with
        | some (.slot o) => match s.env o with
          | .sl .yes sz l => (sz' = sz ∨ ys = []) ∧ appendTo P T sz l ys ∧ K ((s.kill (.tmp o)).put dst (.sl .yes sz (l ++ ys)) none)
          | _ => False
        | some (.cell b off) => match cellsAt s.st b with
          | some cs => match cs[off]? with
            | some (.sl .yes sz l) => (sz' = sz ∨ ys = []) ∧ appendTo P T sz l ys ∧ K ({ s with st := setB s.st b (cs.set off (.sl .no sz l)) }.put dst (.sl .yes sz (l ++ ys)) none)
            | _ => False
          | none => False
        | none => False
      | _ => False
    | _ => False

/-- Cells with a value laid over them. -/
def lay (cs : List AV) (off : Nat) (vs : List AV) : List AV := cs.take off ++ vs ++ cs.drop (off + vs.length)

def opW (C : CallRel) (P : Program) (o : Oper) (s : St) (K : St → Prop) : Prop := match o.op with
  | .assign x => K ((s.kill x).put o.dst (prom (ev P s.env o.type x)) none)
  | .alloc T => match zeroA P T with
    | some cs => K ({ s with st := s.st ++ [Blk.cells T (cs.map promW)] }.put o.dst (.ptr s.st.length 0) none)
    | none => False
  | .box T x => if tsz P T = some (ev P s.env T x).cells.length ∧ stoA (ev P s.env T x) = true then
      K ({ s with st := s.st ++ [Blk.cells T ((ev P s.env T x).cells.map promW)] }.put o.dst (.ptr s.st.length 0) none) else False
  | .store T a x => match ev P s.env 0 a with
    | .ptr b off => match cellsAt s.st b with
      | some cs => if tsz P T = some (ev P s.env T x).cells.length ∧ off + (ev P s.env T x).cells.length ≤ cs.length ∧ stoA (ev P s.env T x) = true then
          K (let s1 := s.kill x; { s1 with st := setB s.st b (lay cs off (stCells (ev P s.env T x))), al := invB [b] s.al }.put o.dst (.tup []) none) else False
      | none => False
    | _ => False
  | .range T x => match P.underlying T, ev P s.env T x with
    | some .string, .str t => K ({ s with st := s.st ++ [Blk.siter t 0] }.put o.dst (.iter s.st.length) none)
    | _, _ => False
  | .next it true => match ev P s.env 0 it with
    | .iter b => match s.st[b]? with
      | some (.siter t pos) => if pos < t.length then
          K ({ s with st := s.st.set b (.siter t (pos + (Utf8.decode ⟨t.toArray⟩ pos).2)) }.put o.dst (.tup [.bool true, .int .i64 pos, .int .i32 (Utf8.decode ⟨t.toArray⟩ pos).1]) none)
        else K (s.put o.dst (.tup [.bool false]) none)
      | _ => False
    | _ => False
  | .call c => match c.callee with
    | .builtin .append => match c.args.toList, c.argTypes.toList with
      | [x, y], [T, T'] => if appArg P T' = true then appendW P T x (appElems (ev P s.env T' y)) s o.dst K else False
      | _, _ => False
    | .builtin _ => match opVal P s.env s.st o with
      | some v => K (s.put o.dst v none)
      | none => False
    | .value (.func f) => callW C f ((c.args.toList.zip c.argTypes.toList).map fun (x, T) => ev P s.env T x) s o.dst K
    | .value (.tmp t) => match s.env t with
      | .fn f first cap => callW C f (first ++ ((c.args.toList.zip c.argTypes.toList).map fun (x, T) => ev P s.env T x) ++ cap) s o.dst K
      | _ => False
    | _ => False
  | _ => match opVal P s.env s.st o with
    | some v => K (s.put o.dst v (opSrc P s.env o))
    | none => False

/-- Is an operation carried out? -/
def wantedA (ops : Array Oper) (o : Oper) (env : Nat → AV) : Option Bool := match o.guard with
  | none => some true
  | some (j, want) => match (ops[j]?).bind (·.dst) with
    | some t => match env t with
      | .bool b => some (b == want)
      | .tup [] => some false
      | _ => none
    | none => none

def W (C : CallRel) (P : Program) (ops : Array Oper) : List Oper → St → (St → Prop) → Prop
  | [], s, K => K s
  | o :: l, s, K => match wantedA ops o s.env with
    | some true => opW C P o s fun s' => W C P ops l s' K
    | some false => W C P ops l (s.put o.dst (.tup []) none) K
    | none => False

/-! ### Regions that draw their order -/
def St.clr (s : St) : St := { s with al := fun _ => none }
/-- One operation, or that it is left out. -/
def stepW (C : CallRel) (P : Program) (ops : Array Oper) (o : Oper) (s : St) (K : St → Prop) : Prop := match wantedA ops o s.env with
  | some true => opW C P o s K
  | some false => K (s.put o.dst (.tup []) none)
  | none => False
/-- The operations in an order; nothing is known of where a value came from. -/
def WD (C : CallRel) (P : Program) (ops : Array Oper) : List Oper → St → (St → Prop) → Prop
  | [], s, K => K s
  | o :: l, s, K => stepW C P ops o s fun s' => WD C P ops l s'.clr K

inductive OpK where
  | plain | load | other
  deriving DecidableEq
def kindOf (o : Oper) : OpK := match o.op with
  | .load _ _ => .load
  | .convert _ _ _ => .load
  | .alloc _ | .box _ _ | .store _ _ _ | .range _ _ | .next _ _ | .assign _ => .other
  | .call c => match c.callee with
    | .builtin .append => .other
    | .builtin _ => .plain
    | _ => .other
  | _ => .plain
/-- The variables whose right an operation takes away. -/
def killsA (o : Oper) : List Nat := match o.op with
  | .assign (.tmp t) => [t]
  | .store _ _ (.tmp t) => [t]
  | .call c => match c.callee, c.args.toList with
    | .builtin .append, .tmp m :: _ => [m]
    | _, _ => []
  | _ => []
/-- Does it not matter which of two operations is first? -/
def indepB (ops : Array Oper) (x y : Oper) : Bool :=
  x.apart ops y && ((kindOf x == .plain && (killsA y).all fun t => !(x.looksAt ops).contains t) || (kindOf y == .plain && (killsA x).all fun t => !(y.looksAt ops).contains t) || (kindOf x == .load && kindOf y == .load))
def waits (ops : Array Oper) (j i : Nat) : Bool := match ops[j]? with
  | some o => o.after.toList.any fun e => Region.binds .any e && e.on == i
  | none => true
def readyL (ops : Array Oper) (rem : List Nat) : List Nat := rem.filter fun i => rem.all fun j => !waits ops i j
def depR (ops : Array Oper) (rem : List Nat) : Nat → Nat → Nat → Bool
  | 0, _, _ => false
  | fuel + 1, j, i => waits ops j i || rem.any fun k => waits ops j k && depR ops rem fuel k i
def freeB (ops : Array Oper) (rem : List Nat) (i : Nat) : Bool := rem.all fun j => j == i || depR ops rem rem.length j i || match ops[i]?, ops[j]? with
  | some x, some y => indepB ops x y
  | _, _ => false
inductive OT where
  | nil
  | one (i : Nat) (t : OT)
  | both (a b : OT)
  | top
/-- Orders that stand for all that may be drawn. -/
def orders (ops : Array Oper) : Nat → List Nat → OT
  | 0, _ => .nil
  | fuel + 1, rem => match rem with
    | [] => .nil
    | _ :: _ => match (readyL ops rem).find? (freeB ops rem) with
      | some i => .one i (orders ops fuel (rem.erase i))
      | none => (readyL ops rem).foldr (fun i t => .both (.one i (orders ops fuel (rem.erase i))) t) .top
def WT (C : CallRel) (P : Program) (ops : Array Oper) : OT → St → (St → Prop) → Prop
  | .nil, s, K => K s
  | .one i t, s, K => match ops[i]? with
    | some o => stepW C P ops o s fun s' => WT C P ops t s'.clr K
    | none => False
  | .both a b, s, K => WT C P ops a s K ∧ WT C P ops b s K
  | .top, _, _ => True
/-- All orders; what is known of where a value came from is kept. -/
def ordersA (ops : Array Oper) : Nat → List Nat → OT
  | 0, _ => .nil
  | fuel + 1, rem => match rem with
    | [] => .nil
    | _ :: _ => (readyL ops rem).foldr (fun i t => .both (.one i (ordersA ops fuel (rem.erase i))) t) .top
def WU (C : CallRel) (P : Program) (ops : Array Oper) : OT → St → (St → Prop) → Prop
  | .nil, s, K => K s
  | .one i t, s, K => match ops[i]? with
    | some o => stepW C P ops o s fun s' => WU C P ops t s' K
    | none => False
  | .both a b, s, K => WU C P ops a s K ∧ WU C P ops b s K
  | .top, _, _ => True
/-- No operation waits for a later one. -/
def acycB (ops : Array Oper) : Bool := (List.range ops.size).all fun i => match ops[i]? with
  | some o => o.after.toList.all fun e => !Region.binds .any e || decide (e.on < i)
  | none => true

/-! ### Code -/
inductive Ex where
  | normal
  | exit (id : Nat)
  | ret

abbrev Env := Nat → AV

/-- What is forgotten: blocks (those that stay, in their new order; the first 'm' stay where they are), variables, rights. -/
def Wk (m : Nat) (env : Env) (σ : List Blk) (env' : Env) (σ' : List Blk) : Prop :=
  (σ' = σ ∧ ∀ t, env' t = .undef ∨ env t = env' t ∨ weak (env t) = env' t) ∨
  ∃ ks : List Nat, ks.Nodup ∧ (∀ i, i < m → ks[i]? = some i) ∧ handed σ ks σ' ∧ ∀ t, env' t = .undef ∨ env t = ren ks (env' t) ∨ weak (env t) = ren ks (env' t)

def wp (m : Nat) (C : CallRel) (P : Program) : Code → (Ex → Env → List Blk → Prop) → Env → List Blk → Prop
  | .skip, Q, env, σ => Q .normal env σ
  | .region _ ops false, Q, env, σ => W C P ops ops.toList ⟨env, fun _ => none, σ⟩ fun s => Q .normal s.env s.st
  | .region _ ops true, Q, env, σ => (WT C P ops (orders ops ops.size (List.range ops.size)) ⟨env, fun _ => none, σ⟩ fun s => Q .normal s.env s.st) ∨ WU C P ops (ordersA ops ops.size (List.range ops.size)) ⟨env, fun _ => none, σ⟩ fun s => Q .normal s.env s.st
  | .seq a b, Q, env, σ => wp m C P a (fun e env σ => match e with | .normal => wp m C P b Q env σ | e => Q e env σ) env σ
  | .cond c a b, Q, env, σ => match ev P env 0 c with
    | .bool t => (t = true → wp m C P a Q env σ) ∧ (t = false → wp m C P b Q env σ)
    | _ => False
  | .block id a, Q, env, σ => wp m C P a (fun e env σ => match e with | .exit id' => if id' = id then Q .normal env σ else Q (.exit id') env σ | e => Q e env σ) env σ
  | .loop a, Q, env, σ => ∀ X : Env → List Blk → Prop,
      (∀ env σ, (∃ env' σ', Wk m env σ env' σ' ∧ wp m C P a (fun e env σ => match e with | .normal => X env σ | e => Q e env σ) env' σ') → X env σ) → X env σ
  | .exit id, Q, env, σ => Q (.exit id) env σ
  | .ret, Q, env, σ => Q .ret env σ
  | _, _, _, _ => False

def resOne (P : Program) (env : Env) (σ : List Blk) : ResultVar → Option AV
  | .tmp t => some (env t)
  | .cell a T => match env a with
    | .ptr b off => loadV P σ T (.ptr b off)
    | _ => none
def resAll (P : Program) (env : Env) (σ : List Blk) : List ResultVar → Option (List AV)
  | [] => some []
  | r :: l => match resOne P env σ r, resAll P env σ l with
    | some v, some vs => if stoA v = true then some (canon1 v :: vs) else none
    | _, _ => none
def resA (P : Program) (fn : Func) (env : Env) (σ : List Blk) : Option AV := match fn.results.toList with
  | [r] => resOne P env σ r
  | rs => (resAll P env σ rs).map .tup

def envOf (args : List AV) : Env := fun t => (args[t]?).getD .undef

end Go.Pv
/- How the values of the logic 'Pv' stand for the machine's values: the relation, and its plain laws. -/
namespace Go.Pv
open Go

/-- What is known for good: cells that nobody will write any more, and what they hold. -/
abbrev Frz := Nat → Nat → Option Value

inductive VP (S : Frz) : AV → Value → Prop
  | int (k : IntKind) (n : Int) : VP S (.int k n) (.int k n)
  | bool (b : Bool) : VP S (.bool b) (.bool b)
  | str (s : List UInt8) : VP S (.str s) (.string ⟨s.toArray⟩)
  | nilp : VP S .nilp (.pointer none)
  | ref (cs : List AV) (blk off : Nat) (vs : Nat → Value) (hS : ∀ (j : Nat) (c : AV), cs[j]? = some c → S blk (off + j) = some (vs j))
      (hv : ∀ (j : Nat) (c : AV), cs[j]? = some c → VP S c (vs j)) : VP S (.ref cs) (.pointer (some ⟨blk, off, none⟩))
  | slnil (sz : SlT) : VP S (.sl .nil sz []) (.slice none 0 0)
  | sl0 (o : Ow) (sz : SlT) (A : Option Addr) (cap : Nat) (ho : o ≠ .nil) : VP S (.sl o sz []) (.slice A 0 cap)
  | slc (o : Ow) (sz : SlT) (l : List AV) (blk off cap : Nat) (vs : Nat → Nat → Value) (ho : o ≠ .nil) (hc : l.length ≤ cap)
      (hz : ∀ a, a ∈ l → a.cells.length = sz)
      (hS : ∀ (i j : Nat) (a c : AV), l[i]? = some a → a.cells[j]? = some c → S blk (off + i * sz + j) = some (vs i j))
      (hv : ∀ (i j : Nat) (a c : AV), l[i]? = some a → a.cells[j]? = some c → VP S c (vs i j)) : VP S (.sl o sz l) (.slice (some ⟨blk, off, none⟩) l.length cap)
  | nilf : VP S .nilf .nilFunc
  | nili : VP S .nili .nilIface
  | iface (t : TypeId) (a : AV) (v : Value) (h : VP S a v) : VP S (.iface t a) (.iface t v)
  | agg (cs : List AV) (vs : Array Value) (hl : cs.length = vs.size) (hv : ∀ (i : Nat) (c : AV) (v : Value), cs[i]? = some c → vs[i]? = some v → VP S c v)
      (h1 : ∀ (i : Nat) (v : Value), vs[i]? = some v → v.oneCell' = true) : VP S (.agg cs) (.agg vs)
  | tup (cs : List AV) (vs : Array Value) (hl : cs.length = vs.size) (hv : ∀ (i : Nat) (c : AV) (v : Value), cs[i]? = some c → vs[i]? = some v → VP S c v) : VP S (.tup cs) (.tuple vs)
  | undef (v : Value) : VP S .undef v

def RL (r : AV → Value → Prop) (l : List AV) (vs : Array Value) : Prop := l.length = vs.size ∧ ∀ (i : Nat) (c : AV) (v : Value), l[i]? = some c → vs[i]? = some v → r c v
def R0 (φ : List Nat) (S : Frz) (a : AV) (v : Value) : Prop := match a with
  | .ptr b off => ∃ k, φ[b]? = some k ∧ v = .pointer (some ⟨k, off, none⟩)
  | .ptrOpt b off => ∃ k, φ[b]? = some k ∧ (v = .pointer none ∨ v = .pointer (some ⟨k, off, none⟩))
  | .iter b => ∃ k, φ[b]? = some k ∧ v = .pointer (some ⟨k, 0, none⟩)
  | a => VP S a v
def R1 (φ : List Nat) (S : Frz) (a : AV) (v : Value) : Prop := match a with
  | .fn f first cap => ∃ first' cap', v = .func (.func f) first' cap' ∧ RL (R0 φ S) first first' ∧ RL (R0 φ S) cap cap'
  | a => R0 φ S a v
def R2 (φ : List Nat) (S : Frz) (a : AV) (v : Value) : Prop := match a with
  | .agg cs => ∃ vs, v = .agg vs ∧ RL (R1 φ S) cs vs ∧ ∀ (i : Nat) (v : Value), vs[i]? = some v → v.oneCell' = true
  | a => R1 φ S a v
def VR (φ : List Nat) (S : Frz) (a : AV) (v : Value) : Prop := match a with
  | .tup cs => ∃ vs, v = .tuple vs ∧ RL (R2 φ S) cs vs
  | a => R2 φ S a v

section mono
variable {S S' : Frz} {φ φ' : List Nat}
abbrev Frz.le (S S' : Frz) : Prop := ∀ b o v, S b o = some v → S' b o = some v
abbrev FiLe (φ φ' : List Nat) : Prop := ∀ (b k : Nat), φ[b]? = some k → φ'[b]? = some k

theorem VP.mono (h : S.le S') {a : AV} {v : Value} (hv : VP S a v) : VP S' a v := by
  induction hv with
  | int k n => exact .int k n
  | bool b => exact .bool b
  | str s => exact .str s
  | nilp => exact .nilp
  | ref cs blk off vs hS hv ih => exact .ref cs blk off vs (fun j c hc => h _ _ _ (hS j c hc)) ih
  | slnil sz => exact .slnil sz
  | sl0 o sz A cap ho => exact .sl0 o sz A cap ho
  | slc o sz l blk off cap vs ho hc hz hS hv ih => exact .slc o sz l blk off cap vs ho hc hz (fun i j a c h1 h2 => h _ _ _ (hS i j a c h1 h2)) ih
  | nilf => exact .nilf
  | nili => exact .nili
  | iface t a v _ ih => exact .iface t a v ih
  | agg cs vs hl _ h1 ih => exact .agg cs vs hl ih h1
  | tup cs vs hl _ ih => exact .tup cs vs hl ih
  | undef v => exact .undef v

theorem RL.mono {r r' : AV → Value → Prop} {l : List AV} {vs : Array Value} (h : ∀ a v, r a v → r' a v) (hl : RL r l vs) : RL r' l vs :=
  ⟨hl.1, fun i c v h1 h2 => h _ _ (hl.2 i c v h1 h2)⟩
theorem R0.mono (h : S.le S') (hf : FiLe φ φ') {a : AV} {v : Value} (hv : R0 φ S a v) : R0 φ' S' a v := by
  cases a <;> simp only [R0] at hv ⊢ <;> first
    | exact hv.mono h
    | (obtain ⟨k, h1, h2⟩ := hv; exact ⟨k, hf _ _ h1, h2⟩)
theorem R1.mono (h : S.le S') (hf : FiLe φ φ') {a : AV} {v : Value} (hv : R1 φ S a v) : R1 φ' S' a v := by
  cases a <;> simp only [R1] at hv ⊢ <;> first
    | exact hv.mono h hf
    | (obtain ⟨x, y, h1, h2, h3⟩ := hv; exact ⟨x, y, h1, h2.mono fun _ _ => R0.mono h hf, h3.mono fun _ _ => R0.mono h hf⟩)
theorem R2.mono (h : S.le S') (hf : FiLe φ φ') {a : AV} {v : Value} (hv : R2 φ S a v) : R2 φ' S' a v := by
  cases a <;> simp only [R2] at hv ⊢ <;> first
    | exact hv.mono h hf
    | (obtain ⟨x, h1, h2, h3⟩ := hv; exact ⟨x, h1, h2.mono fun _ _ => R1.mono h hf, h3⟩)
theorem VR.mono (h : S.le S') (hf : FiLe φ φ') {a : AV} {v : Value} (hv : VR φ S a v) : VR φ' S' a v := by
  cases a <;> simp only [VR] at hv ⊢ <;> first
    | exact hv.mono h hf
    | (obtain ⟨x, h1, h2⟩ := hv; exact ⟨x, h1, h2.mono fun _ _ => R2.mono h hf⟩)
end mono

/-! ### From one level to the next; values without blocks -/
section levels
variable {φ : List Nat} {S : Frz} {a : AV} {v : Value}
theorem VP.r0 (h : VP S a v) : R0 φ S a v := by cases h <;> simp only [R0] <;> constructor <;> assumption
theorem R0.r1 (h : R0 φ S a v) : R1 φ S a v := by
  cases a <;> simp only [R1] <;> first
    | exact h
    | (simp only [R0] at h; cases h)
theorem VP.r1 (h : VP S a v) : R1 φ S a v := h.r0.r1
theorem R1.r2 (h : R1 φ S a v) : R2 φ S a v := by
  cases a <;> simp only [R2] <;> first
    | exact h
    | (simp only [R1, R0] at h; cases h with
       | agg cs vs hl hv h1 => exact ⟨vs, rfl, ⟨hl, fun i c v h2 h3 => (hv i c v h2 h3).r1⟩, h1⟩)
theorem VP.r2 (h : VP S a v) : R2 φ S a v := h.r1.r2
theorem R2.vr (h : R2 φ S a v) : VR φ S a v := by
  cases a <;> simp only [VR] <;> first
    | exact h
    | (simp only [R2, R1, R0] at h; cases h with
       | tup cs vs hl hv => exact ⟨vs, rfl, ⟨hl, fun i c v h2 h3 => (hv i c v h2 h3).r2⟩⟩)
theorem VP.vr (h : VP S a v) : VR φ S a v := h.r2.vr
theorem R1.vr (h : R1 φ S a v) : VR φ S a v := h.r2.vr
theorem VR.undef : VR φ S .undef v := (VP.undef v).vr
end levels

/-! ### Rights, forgotten -/
section rights
variable {φ : List Nat} {S : Frz} {a : AV} {v : Value}
theorem VP.own {o o' : Ow} {sz : SlT} {l : List AV} (h : VP S (.sl o sz l) v) (ho : o' ≠ .nil) : VP S (.sl o' sz l) v := by
  cases h with
  | slnil => exact .sl0 _ _ _ _ ho
  | sl0 _ _ A cap _ => exact .sl0 _ _ _ _ ho
  | slc _ _ _ blk off cap vs _ hc hz hS hv => exact .slc _ _ _ blk off cap vs ho hc hz hS hv
theorem VR.own {o o' : Ow} {sz : SlT} {l : List AV} (h : VR φ S (.sl o sz l) v) (ho : o' ≠ .nil) : VR φ S (.sl o' sz l) v := by
  simp only [VR, R2, R1, R0] at h ⊢
  exact h.own ho
theorem VP.weak (h : VP S a v) : VP S (weak a) v := by
  unfold Pv.weak
  split
  · exact h.own (by simp)
  · exact h
theorem R0.canon0 (h : R0 φ S a v) : R0 φ S (canon0 a) v := by
  unfold Pv.canon0
  split
  · exact VP.own (o' := .no) h (by simp)
  · exact h
theorem R1.canon0 (h : R1 φ S a v) : R1 φ S (canon0 a) v := by
  cases a <;> simp only [Pv.canon0] <;> first
    | exact h
    | (simp only [R1, R0] at h ⊢; exact h.own (by simp))
theorem RL.map {r r' : AV → Value → Prop} {l : List AV} {vs : Array Value} {f : AV → AV} (h : ∀ a v, r a v → r' (f a) v) (hl : RL r l vs) : RL r' (l.map f) vs :=
  ⟨by simp [hl.1], fun i c v h1 h2 => by
    simp only [List.getElem?_map, Option.map_eq_some_iff] at h1
    obtain ⟨b, hb, rfl⟩ := h1
    exact h _ _ (hl.2 i b v hb h2)⟩
theorem R2.canon1 (h : R2 φ S a v) : R2 φ S (canon1 a) v := by
  cases a <;> simp only [Pv.canon1, Pv.canon0] <;> first
    | exact h
    | (simp only [R2, R1, R0] at h ⊢; exact h.own (by simp))
    | (simp only [R2] at h ⊢; obtain ⟨vs, h1, h2, h3⟩ := h; exact ⟨vs, h1, h2.map fun _ _ => R1.canon0, h3⟩)
theorem VR.canon (h : VR φ S a v) : VR φ S (canon a) v := by
  cases a <;> simp only [Pv.canon, Pv.canon1, Pv.canon0] <;> first
    | exact h
    | (simp only [VR, R2, R1, R0] at h ⊢; exact h.own (by simp))
    | (simp only [VR] at h ⊢; exact R2.canon1 h)
    | (simp only [VR] at h ⊢; obtain ⟨vs, h1, h2⟩ := h; exact ⟨vs, h1, h2.map fun _ _ => R2.canon1⟩)
theorem VR.weak (h : VR φ S a v) : VR φ S (weak a) v := by
  unfold Pv.weak
  split
  · exact h.own (by simp)
  · exact h
theorem R1.weak (h : R1 φ S a v) : R1 φ S (weak a) v := by
  unfold Pv.weak
  split
  · simp only [R1, R0] at h ⊢; exact h.own (by simp)
  · exact h
theorem R1.prom (h : R1 φ S a v) : R1 φ S (prom a) v := by
  unfold Pv.prom
  split
  · simp only [R1, R0] at h ⊢; exact h.own (by simp)
  · exact h
theorem VR.prom (h : VR φ S a v) : VR φ S (prom a) v := by
  unfold Pv.prom
  split
  · exact h.own (by simp)
  · exact h
end rights

/-! ### Renaming -/
section rens
variable {φ φ' : List Nat} {S : Frz} {ks : List Nat}
/-- From the caller's numbers to the callee's. -/
theorem R0.unren (hf : ∀ (i k c : Nat), ks[i]? = some k → φ[k]? = some c → φ'[i]? = some c) {a : AV} {v : Value} (h : R0 φ S (ren0 ks a) v) : R0 φ' S a v := by
  cases a <;> simp only [ren0] at h <;> first
    | exact h
    | (split at h
       · rename_i k hk
         simp only [R0] at h ⊢
         obtain ⟨c, h1, h2⟩ := h
         exact ⟨c, hf _ _ _ hk h1, h2⟩
       · simp only [R0] at h
         cases h)
theorem RL.unmap {r r' : AV → Value → Prop} {l : List AV} {vs : Array Value} {f : AV → AV} (h : ∀ a v, r (f a) v → r' a v) (hl : RL r (l.map f) vs) : RL r' l vs :=
  ⟨by simpa using hl.1, fun i c v h1 h2 => h _ _ (hl.2 i (f c) v (by simp [h1]) h2)⟩
theorem R1.of_ren0 {a : AV} {v : Value} (ha : ∀ f x y, a ≠ .fn f x y) (h : R1 φ S (ren0 ks a) v) : R0 φ S (ren0 ks a) v := by
  cases a <;> first
    | exact h
    | exact absurd rfl (ha _ _ _)
    | (simp only [ren0] at h ⊢; split at h <;> simp_all [R1])
theorem R2.of_ren1 {a : AV} {v : Value} (ha : ∀ x, a ≠ .agg x) (h : R2 φ S (ren1 ks a) v) : R1 φ S (ren1 ks a) v := by
  cases a <;> first
    | exact h
    | exact absurd rfl (ha _)
    | (simp only [ren1, ren0] at h ⊢; split at h <;> simp_all [R2])
theorem VR.of_ren2 {a : AV} {v : Value} (ha : ∀ x, a ≠ .tup x) (h : VR φ S (ren2 ks a) v) : R2 φ S (ren2 ks a) v := by
  cases a <;> first
    | exact h
    | exact absurd rfl (ha _)
    | (simp only [ren2, ren1, ren0] at h ⊢; split at h <;> simp_all [VR])
theorem R1.unren (hf : ∀ (i k c : Nat), ks[i]? = some k → φ[k]? = some c → φ'[i]? = some c) {a : AV} {v : Value} (h : R1 φ S (ren1 ks a) v) : R1 φ' S a v := by
  by_cases ha : ∃ f x y, a = .fn f x y
  · obtain ⟨f, x, y, rfl⟩ := ha
    obtain ⟨x', y', h1, h2, h3⟩ := h
    exact ⟨x', y', h1, h2.unmap fun _ _ => R0.unren hf, h3.unmap fun _ _ => R0.unren hf⟩
  · have ha' : ∀ f x y, a ≠ .fn f x y := fun f x y e => ha ⟨f, x, y, e⟩
    have e : ren1 ks a = ren0 ks a := by cases a <;> first | rfl | exact absurd rfl (ha' _ _ _)
    rw [e] at h
    exact (R0.unren hf (h.of_ren0 ha')).r1
theorem R2.unren (hf : ∀ (i k c : Nat), ks[i]? = some k → φ[k]? = some c → φ'[i]? = some c) {a : AV} {v : Value} (h : R2 φ S (ren2 ks a) v) : R2 φ' S a v := by
  by_cases ha : ∃ x, a = .agg x
  · obtain ⟨x, rfl⟩ := ha
    obtain ⟨x', h1, h2, h3⟩ := h
    exact ⟨x', h1, h2.unmap fun _ _ => R1.unren hf, h3⟩
  · have ha' : ∀ x, a ≠ .agg x := fun x e => ha ⟨x, e⟩
    have e : ren2 ks a = ren1 ks a := by cases a <;> first | rfl | exact absurd rfl (ha' _)
    rw [e] at h
    exact (R1.unren hf (h.of_ren1 ha')).r2
theorem VR.unren (hf : ∀ (i k c : Nat), ks[i]? = some k → φ[k]? = some c → φ'[i]? = some c) {a : AV} {v : Value} (h : VR φ S (ren ks a) v) : VR φ' S a v := by
  by_cases ha : ∃ x, a = .tup x
  · obtain ⟨x, rfl⟩ := ha
    obtain ⟨x', h1, h2⟩ := h
    exact ⟨x', h1, h2.unmap fun _ _ => R2.unren hf⟩
  · have ha' : ∀ x, a ≠ .tup x := fun x e => ha ⟨x, e⟩
    have e : Pv.ren ks a = ren2 ks a := by cases a <;> first | rfl | exact absurd rfl (ha' _)
    rw [e] at h
    exact (R2.unren hf (h.of_ren2 ha')).vr

/-- From the callee's numbers to the caller's. -/
theorem R0.ren (hf : ∀ (i c : Nat), φ'[i]? = some c → ∃ k, ks[i]? = some k ∧ φ[k]? = some c) {a : AV} {v : Value} (h : R0 φ' S a v) : R0 φ S (ren0 ks a) v := by
  cases a <;> simp only [ren0] <;> first
    | exact h
    | (simp only [R0] at h
       obtain ⟨c, h1, h2⟩ := h
       obtain ⟨k, h3, h4⟩ := hf _ _ h1
       simp only [h3, R0]
       exact ⟨c, h4, h2⟩)
theorem R1.ren (hf : ∀ (i c : Nat), φ'[i]? = some c → ∃ k, ks[i]? = some k ∧ φ[k]? = some c) {a : AV} {v : Value} (h : R1 φ' S a v) : R1 φ S (ren1 ks a) v := by
  by_cases ha : ∃ f x y, a = .fn f x y
  · obtain ⟨f, x, y, rfl⟩ := ha
    obtain ⟨x', y', h1, h2, h3⟩ := h
    exact ⟨x', y', h1, h2.map fun _ _ => R0.ren hf, h3.map fun _ _ => R0.ren hf⟩
  · have ha' : ∀ f x y, a ≠ .fn f x y := fun f x y e => ha ⟨f, x, y, e⟩
    have e : ren1 ks a = ren0 ks a := by cases a <;> first | rfl | exact absurd rfl (ha' _ _ _)
    have h0 : R0 φ' S a v := by cases a <;> first | exact h | exact absurd rfl (ha' _ _ _)
    rw [e]
    exact (R0.ren hf h0).r1
theorem R2.ren (hf : ∀ (i c : Nat), φ'[i]? = some c → ∃ k, ks[i]? = some k ∧ φ[k]? = some c) {a : AV} {v : Value} (h : R2 φ' S a v) : R2 φ S (ren2 ks a) v := by
  by_cases ha : ∃ x, a = .agg x
  · obtain ⟨x, rfl⟩ := ha
    obtain ⟨x', h1, h2, h3⟩ := h
    exact ⟨x', h1, h2.map fun _ _ => R1.ren hf, h3⟩
  · have ha' : ∀ x, a ≠ .agg x := fun x e => ha ⟨x, e⟩
    have e : ren2 ks a = ren1 ks a := by cases a <;> first | rfl | exact absurd rfl (ha' _)
    have h0 : R1 φ' S a v := by cases a <;> first | exact h | exact absurd rfl (ha' _)
    rw [e]
    exact (R1.ren hf h0).r2
theorem VR.ren (hf : ∀ (i c : Nat), φ'[i]? = some c → ∃ k, ks[i]? = some k ∧ φ[k]? = some c) {a : AV} {v : Value} (h : VR φ' S a v) : VR φ S (ren ks a) v := by
  by_cases ha : ∃ x, a = .tup x
  · obtain ⟨x, rfl⟩ := ha
    obtain ⟨x', h1, h2⟩ := h
    exact ⟨x', h1, h2.map fun _ _ => R2.ren hf⟩
  · have ha' : ∀ x, a ≠ .tup x := fun x e => ha ⟨x, e⟩
    have e : Pv.ren ks a = ren2 ks a := by cases a <;> first | rfl | exact absurd rfl (ha' _)
    have h0 : R2 φ' S a v := by cases a <;> first | exact h | exact absurd rfl (ha' _)
    rw [e]
    exact (R2.ren hf h0).vr
end rens
end Go.Pv
/- The relation between a state of the logic 'Pv' and the machine's, and how it is carried over what an operation does. -/
namespace Go.Pv
open Go

/-- How many cells some blocks have: the library's table of powers of ten, variable 1. -/
def sizesOf (g : Nat) : Option Nat := if g = 1 then some 20 else none
/-- What is known for good is so; blocks whose size is known have it. -/
structure Sok (S : Frz) (w : World) : Prop where
  cell : ∀ (b o : Nat) (v : Value), S b o = some v → w.cell? ⟨b, o, none⟩ = some v ∧ v.oneCell' = true
  tab : ∀ g n, sizesOf g = some n → S g 0 ≠ none ∧ ∃ cs T fr, w.heap[g]? = some (.cells cs T fr) ∧ cs.size = n
instance {S : Frz} {w : World} : CoeFun (Sok S w) fun _ => ∀ (b o : Nat) (v : Value), S b o = some v → w.cell? ⟨b, o, none⟩ = some v ∧ v.oneCell' = true := ⟨Sok.cell⟩

/-- What a call may do to the world: it writes only blocks of the set T, and new ones; what is frozen stays. -/
structure Evo (T : Nat → Prop) (w : World) (S : Frz) (w' : World) (S' : Frz) : Prop where
  os : w'.os = w.os
  tape : w'.tape = w.tape
  output : w'.output = w.output
  size : w.heap.size ≤ w'.heap.size
  heap : ∀ k, k < w.heap.size → ¬ T k → w'.heap[k]? = w.heap[k]?
  le : S.le S'
  more : ∀ k o v, S' k o = some v → S k o = some v ∨ w.heap.size ≤ k ∨ T k

theorem Evo.refl (T : Nat → Prop) (w : World) (S : Frz) : Evo T w S w S := ⟨rfl, rfl, rfl, Nat.le_refl _, fun _ _ _ => rfl, fun _ _ _ h => h, fun _ _ _ h => .inl h⟩
theorem Evo.trans {T T' : Nat → Prop} {w w1 w2 : World} {S S1 S2 : Frz} (h : Evo T w S w1 S1) (h' : Evo T' w1 S1 w2 S2) (ht : ∀ k, T' k → T k ∨ w.heap.size ≤ k) : Evo T w S w2 S2 :=
  ⟨h'.os.trans h.os, h'.tape.trans h.tape, h'.output.trans h.output, Nat.le_trans h.size h'.size,
   fun k hk hn => (h'.heap k (Nat.lt_of_lt_of_le hk h.size) (fun h2 => (ht k h2).elim hn (fun h3 => by omega))).trans (h.heap k hk hn),
   fun b o v hv => h'.le _ _ _ (h.le _ _ _ hv),
   fun k o v hv => by
    rcases h'.more k o v hv with h1 | h1 | h1
    · exact h.more k o v h1
    · exact .inr (.inl (Nat.le_trans h.size h1))
    · exact (ht k h1).elim (fun h2 => .inr (.inr h2)) (fun h2 => .inr (.inl h2))⟩

/-- The heap has only grown. -/
structure Longer (w w' : World) : Prop where
  os : w'.os = w.os
  tape : w'.tape = w.tape
  output : w'.output = w.output
  size : w.heap.size ≤ w'.heap.size
  heap : ∀ k, k < w.heap.size → w'.heap[k]? = w.heap[k]?

def BlkRel (φ : List Nat) (S : Frz) (w : World) (k : Nat) : Blk → Prop
  | .cells T l => ∃ cs, w.heap[k]? = some (.cells cs T (0, 0)) ∧ RL (R1 φ S) l cs ∧ ∀ (i : Nat) (v : Value), cs[i]? = some v → v.oneCell' = true
  | .siter s pos => w.heap[k]? = some (.stringIter ⟨s.toArray⟩ pos)

def blkOf : Value → Option Nat
  | .slice (some a) _ _ => some a.block
  | _ => none

/-- A slice whose holder may append in place. -/
def Own1 (φ : List Nat) (S : Frz) (w : World) (sz : SlT) (n : Nat) (v : Value) : Prop := match v with
  | .slice none _ cap => cap = 0
  | .slice (some a) _ cap => a = ⟨a.block, 0, none⟩ ∧ a.block ∉ φ ∧ (∃ cur fr, w.heap[a.block]? = some (.cells cur sz.e fr) ∧ cur.size = cap * sz ∧ (fr.1 = fr.2 ∨ fr.2 ≤ n * sz ∨ cur.size ≤ fr.1)) ∧ ∀ j, n * sz ≤ j → S a.block j = none
  | _ => True

inductive Hold where
  | tmp (t : Nat)
  | cell (i off : Nat)
  deriving DecidableEq

def haA (env : Env) (σ : List Blk) : Hold → AV
  | .tmp t => env t
  | .cell i off => (cellAt σ i off).getD .undef
def haV (φ : List Nat) (tm : Array Value) (w : World) : Hold → Value
  | .tmp t => tm.getD t undef
  | .cell i off => match φ[i]? with
    | some k => (w.cell? ⟨k, off, none⟩).getD undef
    | none => undef

structure Rel (n : Nat) (w0 : World) (S0 : Frz) (T0 : Nat → Prop) (φ : List Nat) (S : Frz) (env : Env) (σ : List Blk) (tm : Array Value) (w : World) : Prop where
  sok : Sok S w
  evo : Evo T0 w0 S0 w S
  size : tm.size = n
  vals : ∀ t, VR φ S (env t) (tm.getD t undef)
  nodup : φ.Nodup
  len : φ.length = σ.length
  blk : ∀ (i k : Nat) (b : Blk), σ[i]? = some b → φ[i]? = some k → BlkRel φ S w k b
  free : ∀ (i k : Nat), φ[i]? = some k → ∀ o, S k o = none
  inT : ∀ (i k : Nat), φ[i]? = some k → T0 k ∨ w0.heap.size ≤ k
  own : ∀ h sz l, haA env σ h = .sl .yes sz l → Own1 φ S w sz l.length (haV φ tm w h)
  ownT : ∀ h sz l g, haA env σ h = .sl .yes sz l → blkOf (haV φ tm w h) = some g → T0 g ∨ w0.heap.size ≤ g
  apart : ∀ h h' sz l sz' l' g, h ≠ h' → haA env σ h = .sl .yes sz l → haA env σ h' = .sl .yes sz' l' → blkOf (haV φ tm w h) = some g → blkOf (haV φ tm w h') ≠ some g

def AlRel (φ : List Nat) (al : Nat → Option Src) (tm : Array Value) (w : World) : Prop := ∀ t r, al t = some r → match r with
  | .slot o => tm.getD t undef = tm.getD o undef
  | .cell b off => ∃ k, φ[b]? = some k ∧ w.cell? ⟨k, off, none⟩ = some (tm.getD t undef)

/-! ### The plain laws -/
section
variable {n : Nat} {w0 : World} {S0 : Frz} {T0 : Nat → Prop} {φ : List Nat} {S : Frz} {env : Env} {σ : List Blk} {tm : Array Value} {w : World}

theorem heap_lt {k : Nat} {o : Obj} (h : w.heap[k]? = some o) : k < w.heap.size := (Array.getElem?_eq_some_iff.1 h).1

theorem BlkRel.lt {k : Nat} {b : Blk} (h : BlkRel φ S w k b) : k < w.heap.size := by
  cases b with
  | cells T l => obtain ⟨cs, h1, _⟩ := h; exact heap_lt h1
  | siter s pos => exact heap_lt h

theorem Rel.blk_at (h : Rel n w0 S0 T0 φ S env σ tm w) {i k : Nat} (hk : φ[i]? = some k) : ∃ b, σ[i]? = some b ∧ BlkRel φ S w k b := by
  have hl := h.len
  have hi : i < σ.length := by rw [← hl]; exact (List.getElem?_eq_some_iff.1 hk).1
  exact ⟨σ[i], by simp [hi], h.blk i k _ (by simp [hi]) hk⟩
theorem Rel.fi_lt (h : Rel n w0 S0 T0 φ S env σ tm w) {i k : Nat} (hk : φ[i]? = some k) : k < w.heap.size := by
  obtain ⟨b, _, hb⟩ := h.blk_at hk
  exact hb.lt
theorem Rel.fi_of (h : Rel n w0 S0 T0 φ S env σ tm w) {i : Nat} {b : Blk} (hb : σ[i]? = some b) : ∃ k, φ[i]? = some k := by
  have hi : i < φ.length := by rw [h.len]; exact (List.getElem?_eq_some_iff.1 hb).1
  exact ⟨φ[i], by simp [hi]⟩

theorem cellAt_some {i off : Nat} {a : AV} (h : cellAt σ i off = some a) : ∃ T l, σ[i]? = some (.cells T l) ∧ l[off]? = some a := by
  unfold cellAt cellsAt at h
  split at h
  · rename_i l hl
    split at hl
    · rename_i T' l' hl'
      cases hl
      exact ⟨T', l, hl', h⟩
    · cases hl
  · cases h

theorem cell_heap {k o : Nat} {cs : Array Value} {T : TypeId} {fr : Nat × Nat} (h : w.heap[k]? = some (.cells cs T fr)) : w.cell? ⟨k, o, none⟩ = cs[o]? := by
  simp [World.cell?, h]

theorem cell_same {w' : World} {k : Nat} (h : w'.heap[k]? = w.heap[k]?) (o : Nat) : w'.cell? ⟨k, o, none⟩ = w.cell? ⟨k, o, none⟩ := by
  simp only [World.cell?, h]

/-- The blocks of known size, in a later world. -/
theorem Sok.tab_of (h : Sok S w) {S' : Frz} {w' : World} (hS : S.le S') (hh : ∀ g, S g 0 ≠ none → w'.heap[g]? = w.heap[g]? ∨ ∀ cs T fr, w.heap[g]? = some (.cells cs T fr) → ∃ cs' T' fr', w'.heap[g]? = some (.cells cs' T' fr') ∧ cs'.size = cs.size) :
    ∀ g n, sizesOf g = some n → S' g 0 ≠ none ∧ ∃ cs T fr, w'.heap[g]? = some (.cells cs T fr) ∧ cs.size = n := fun g n hg => by
  obtain ⟨h1, cs, T, fr, h2, h3⟩ := h.tab g n hg
  refine ⟨fun e => ?_, ?_⟩
  · cases hv : S g 0 with
    | none => exact h1 hv
    | some v => rw [hS g 0 v hv] at e; cases e
  · rcases hh g h1 with h4 | h4
    · exact ⟨cs, T, fr, h4.trans h2, h3⟩
    · obtain ⟨cs', T', fr', h5, h6⟩ := h4 cs T fr h2
      exact ⟨cs', T', fr', h5, h6.trans h3⟩
theorem Sok.lt (h : Sok S w) {b o : Nat} {v : Value} (hv : S b o = some v) : b < w.heap.size := by
  have := (h b o v hv).1
  unfold World.cell? at this
  split at this
  · rename_i h1; exact heap_lt h1
  · cases this

theorem Sok.tab_longer (h : Sok S w) {S' : Frz} {w' : World} (hS : S.le S') (hl : Longer w w') : ∀ g n, sizesOf g = some n → S' g 0 ≠ none ∧ ∃ cs T fr, w'.heap[g]? = some (.cells cs T fr) ∧ cs.size = n :=
  h.tab_of hS fun g hg => .inl (hl.heap g (by
    cases hv : S g 0 with
    | none => exact absurd hv hg
    | some v => exact h.lt hv))

theorem Own1.lt {φ : List Nat} {sz : SlT} {m : Nat} {v : Value} {g : Nat} (h : Own1 φ S w sz m v) (hg : blkOf v = some g) : g < w.heap.size := by
  unfold blkOf at hg
  split at hg
  · cases hg
    obtain ⟨_, _, ⟨cur, fr, h1, _⟩, _⟩ := h
    exact heap_lt h1
  · cases hg

theorem Own1.notin {φ : List Nat} {sz : SlT} {m : Nat} {v : Value} {g : Nat} (h : Own1 φ S w sz m v) (hg : blkOf v = some g) : g ∉ φ := by
  unfold blkOf at hg
  split at hg
  · cases hg
    exact h.2.1
  · cases hg

/-- A holder's value does not change where its block does not. -/
theorem haV_same {w' : World} (h : Hold) (hh : ∀ i off k, h = .cell i off → φ[i]? = some k → w'.heap[k]? = w.heap[k]?) : haV φ tm w' h = haV φ tm w h := by
  cases h with
  | tmp t => rfl
  | cell i off =>
    simp only [haV]
    cases hk : φ[i]? with
    | none => rfl
    | some k => simp only [cell_same (hh i off k rfl hk) off]

theorem Own1.carry {w' : World} {S' : Frz} {sz : SlT} {m : Nat} {v : Value} (h : Own1 φ S w sz m v) (hw : ∀ g, blkOf v = some g → w'.heap[g]? = w.heap[g]? ∧ ∀ j, S g j = none → S' g j = none) : Own1 φ S' w' sz m v := by
  unfold Own1 at *
  split
  · exact h
  · rename_i a x cap
    obtain ⟨h1, h2, ⟨cur, fr, h3, h4⟩, h5⟩ := h
    obtain ⟨h6, h7⟩ := hw a.block rfl
    exact ⟨h1, h2, ⟨cur, fr, h6.trans h3, h4⟩, fun j hj => h7 j (h5 j hj)⟩
  · trivial

/-- The world grows by new blocks alone; more is known of what is frozen. -/
theorem Rel.grow (h : Rel n w0 S0 T0 φ S env σ tm w) {w' : World} {S' : Frz} (hw : Longer w w') (hS : S.le S') (hm : ∀ k o v, S' k o = some v → S k o = some v ∨ w.heap.size ≤ k)
    (hok : Sok S' w') : Rel n w0 S0 T0 φ S' env σ tm w' := by
  have hnone : ∀ k j, k < w.heap.size → S k j = none → S' k j = none := fun k j hk hn => by
    cases hs : S' k j with
    | none => rfl
    | some v => rcases hm k j v hs with h1 | h1
                · rw [hn] at h1; cases h1
                · omega
  have hv : ∀ hd, haV φ tm w' hd = haV φ tm w hd := fun hd => haV_same hd fun i off k _ hk => hw.heap k (h.fi_lt hk)
  refine ⟨hok, ?_, h.size, fun t => (h.vals t).mono hS (fun _ _ h => h), h.nodup, h.len, ?_, ?_, h.inT, ?_, ?_, ?_⟩
  · refine h.evo.trans (T' := fun _ => False) ⟨hw.os, hw.tape, hw.output, hw.size, fun k hk _ => hw.heap k hk, hS, fun k o v hv => (hm k o v hv).imp id .inl⟩ (fun _ h => h.elim)
  · intro i k b hb hk
    have := h.blk i k b hb hk
    cases b with
    | cells T l =>
      obtain ⟨cs, h1, h2, h3⟩ := this
      exact ⟨cs, (hw.heap k (heap_lt h1)).trans h1, h2.mono fun _ _ => R1.mono hS (fun _ _ h => h), h3⟩
    | siter s pos => exact (hw.heap k (heap_lt this)).trans this
  · intro i k hk o
    exact hnone k o (h.fi_lt hk) (h.free i k hk o)
  · intro hd sz l ha
    rw [hv hd]
    refine (h.own hd sz l ha).carry fun g hg => ?_
    have hlt := (h.own hd sz l ha).lt hg
    exact ⟨hw.heap g hlt, fun j => hnone g j hlt⟩
  · intro hd sz l g ha hg
    rw [hv hd] at hg
    exact h.ownT hd sz l g ha hg
  · intro hd hd' sz l sz' l' g hne ha ha' hg
    rw [hv hd] at hg
    rw [hv hd']
    exact h.apart hd hd' sz l sz' l' g hne ha ha' hg

theorem getD_set {tm : Array Value} {d t : Nat} {v : Value} (hd : d < tm.size) : (tm.setIfInBounds d v).getD t undef = if t = d then v else tm.getD t undef := by
  by_cases h : t = d
  · subst h; simp [Array.getElem?_setIfInBounds_self, hd]
  · simp [h, Array.getElem?_setIfInBounds_ne (Ne.symm h)]

/-- A value is laid into a temporary. -/
theorem Rel.put (h : Rel n w0 S0 T0 φ S env σ tm w) {d : Nat} (hd : d < n) {a : AV} {v : Value} (hv : VR φ S a v)
    (hown : ∀ sz l, a = .sl .yes sz l → Own1 φ S w sz l.length v ∧ ∀ g, blkOf v = some g → (T0 g ∨ w0.heap.size ≤ g) ∧ ∀ hd' sz' l', hd' ≠ .tmp d → haA env σ hd' = .sl .yes sz' l' → blkOf (haV φ tm w hd') ≠ some g) :
    Rel n w0 S0 T0 φ S (upd env d a) σ (tm.setIfInBounds d v) w := by
  have hd' : d < tm.size := by rw [h.size]; exact hd
  have hA : ∀ hd, haA (upd env d a) σ hd = if hd = Hold.tmp d then a else haA env σ hd := fun hd => by
    cases hd with
    | tmp t =>
      simp only [haA, upd]
      by_cases e : t = d
      · simp [e]
      · simp [e]
    | cell i off => simp [haA]
  have hV : ∀ hd, haV φ (tm.setIfInBounds d v) w hd = if hd = Hold.tmp d then v else haV φ tm w hd := fun hd => by
    cases hd with
    | tmp t =>
      simp only [haV, getD_set hd']
      by_cases e : t = d
      · simp [e]
      · simp [e]
    | cell i off => simp [haV]
  refine ⟨h.sok, h.evo, by simp [h.size], fun t => ?_, h.nodup, h.len, h.blk, h.free, h.inT, ?_, ?_, ?_⟩
  · rw [getD_set hd']
    simp only [upd]
    split
    · exact hv
    · exact h.vals t
  · intro hd sz l ha
    rw [hA] at ha
    rw [hV]
    split
    · rename_i e; rw [if_pos e] at ha; exact (hown sz l ha).1
    · rename_i e; rw [if_neg e] at ha; exact h.own hd sz l ha
  · intro hd sz l g ha hg
    rw [hA] at ha
    rw [hV] at hg
    split at hg
    · rename_i e; rw [if_pos e] at ha; exact ((hown sz l ha).2 g hg).1
    · rename_i e; rw [if_neg e] at ha; exact h.ownT hd sz l g ha hg
  · intro hd hd2 sz l sz' l' g hne ha ha' hg
    rw [hA] at ha ha'
    rw [hV] at hg
    rw [hV]
    by_cases e : hd = Hold.tmp d
    · have e' : hd2 ≠ Hold.tmp d := fun e2 => hne (e.trans e2.symm)
      rw [if_pos e] at ha hg
      rw [if_neg e'] at ha' ⊢
      exact ((hown sz l ha).2 g hg).2 hd2 _ _ e' ha'
    · rw [if_neg e] at ha hg
      by_cases e' : hd2 = Hold.tmp d
      · rw [if_pos e'] at ha' ⊢
        exact fun hg' => ((hown sz' l' ha').2 g hg').2 hd _ _ e ha hg
      · rw [if_neg e'] at ha' ⊢
        exact h.apart hd hd2 sz l sz' l' g hne ha ha' hg

theorem weak_no (a : AV) (sz : SlT) (l : List AV) : weak a ≠ .sl .yes sz l := by
  unfold weak; split <;> simp_all

/-- A right is given up. -/
theorem Rel.forget (h : Rel n w0 S0 T0 φ S env σ tm w) (t : Nat) : Rel n w0 S0 T0 φ S (upd env t (weak (env t))) σ tm w := by
  have hA : ∀ hd sz l, haA (upd env t (weak (env t))) σ hd = .sl .yes sz l → haA env σ hd = .sl .yes sz l := fun hd sz l ha => by
    cases hd with
    | tmp u =>
      simp only [haA, upd] at ha ⊢
      split at ha
      · exact absurd ha (weak_no _ _ _)
      · exact ha
    | cell i off => exact ha
  refine ⟨h.sok, h.evo, h.size, fun u => ?_, h.nodup, h.len, h.blk, h.free, h.inT, fun hd sz l ha => h.own hd sz l (hA _ _ _ ha), fun hd sz l g ha => h.ownT hd sz l g (hA _ _ _ ha),
    fun hd hd' sz l sz' l' g hne ha ha' => h.apart hd hd' sz l sz' l' g hne (hA _ _ _ ha) (hA _ _ _ ha')⟩
  simp only [upd]
  split
  · rename_i e; subst e; exact (h.vals _).weak
  · exact h.vals u
end
end Go.Pv
/- What the relation of 'Pv' tells of a value, kind by kind; operands. -/
namespace Go.Pv
open Go

section inv
variable {φ : List Nat} {S : Frz} {v : Value}
theorem vr_int {k : IntKind} {n : Int} (h : VR φ S (.int k n) v) : v = .int k n := by cases h; rfl
theorem vr_bool {b : Bool} (h : VR φ S (.bool b) v) : v = .bool b := by cases h; rfl
theorem vr_str {s : List UInt8} (h : VR φ S (.str s) v) : v = .string ⟨s.toArray⟩ := by cases h; rfl
theorem vr_nilp (h : VR φ S .nilp v) : v = .pointer none := by cases h; rfl
theorem vr_nilf (h : VR φ S .nilf v) : v = .nilFunc := by cases h; rfl
theorem vr_nili (h : VR φ S .nili v) : v = .nilIface := by cases h; rfl
theorem vr_bad (h : VR φ S .bad v) : False := by cases h
theorem vr_ptr {b off : Nat} (h : VR φ S (.ptr b off) v) : ∃ k, φ[b]? = some k ∧ v = .pointer (some ⟨k, off, none⟩) := h
theorem vr_iter {b : Nat} (h : VR φ S (.iter b) v) : ∃ k, φ[b]? = some k ∧ v = .pointer (some ⟨k, 0, none⟩) := h
theorem vr_fn {f : Nat} {first cap : List AV} (h : VR φ S (.fn f first cap) v) : ∃ first' cap', v = .func (.func f) first' cap' ∧ RL (R0 φ S) first first' ∧ RL (R0 φ S) cap cap' := h
theorem vr_agg {cs : List AV} (h : VR φ S (.agg cs) v) : ∃ vs, v = .agg vs ∧ RL (R1 φ S) cs vs ∧ ∀ (i : Nat) (v : Value), vs[i]? = some v → v.oneCell' = true := h
theorem vr_tup {cs : List AV} (h : VR φ S (.tup cs) v) : ∃ vs, v = .tuple vs ∧ RL (R2 φ S) cs vs := h
theorem vr_iface {T : TypeId} {a : AV} (h : VR φ S (.iface T a) v) : ∃ x, v = .iface T x ∧ VP S a x := by
  cases h with
  | iface t a v h => exact ⟨v, rfl, h⟩
theorem vr_ref {cs : List AV} (h : VR φ S (.ref cs) v) : ∃ blk off, v = .pointer (some ⟨blk, off, none⟩) ∧ ∀ (j : Nat) (c : AV), cs[j]? = some c → ∃ x, S blk (off + j) = some x ∧ VP S c x := by
  cases h with
  | ref cs blk off vs hS hv => exact ⟨blk, off, rfl, fun j c hc => ⟨vs j, hS j c hc, hv j c hc⟩⟩
/-- A slice: its length; and, where it has elements, where they lie. -/
theorem vr_sl {o : Ow} {sz : SlT} {l : List AV} (h : VR φ S (.sl o sz l) v) : ∃ A cap, v = .slice A l.length cap ∧ l.length ≤ cap ∧ (o = .nil → A = none ∧ cap = 0 ∧ l = []) ∧ (∀ a ∈ l, a.cells.length = sz) ∧
    (l ≠ [] → ∃ blk off, A = some ⟨blk, off, none⟩ ∧ ∀ (i j : Nat) (a c : AV), l[i]? = some a → a.cells[j]? = some c → ∃ x, S blk (off + i * sz + j) = some x ∧ VP S c x) := by
  cases h with
  | slnil sz => exact ⟨none, 0, rfl, Nat.le_refl _, fun _ => ⟨rfl, rfl, rfl⟩, by simp, fun h => absurd rfl h⟩
  | sl0 o sz A cap ho => exact ⟨A, cap, rfl, Nat.zero_le _, fun h => absurd h ho, by simp, fun h => absurd rfl h⟩
  | slc o sz l blk off cap vs ho hc hz hS hv => exact ⟨_, cap, rfl, hc, fun h => absurd h ho, hz, fun _ => ⟨blk, off, rfl, fun i j a c h1 h2 => ⟨vs i j, hS i j a c h1 h2, hv i j a c h1 h2⟩⟩⟩
/-- The other way. -/
theorem vp_sl {sz : SlT} {l : List AV} {blk off cap : Nat} (o : Ow) (ho : o ≠ .nil) (hc : l.length ≤ cap) (hz : ∀ a ∈ l, a.cells.length = sz)
    (h : ∀ (i j : Nat) (a c : AV), l[i]? = some a → a.cells[j]? = some c → ∃ x, S blk (off + i * sz + j) = some x ∧ VP S c x) : VP S (.sl o sz l) (.slice (some ⟨blk, off, none⟩) l.length cap) := by
  classical
  refine .slc o sz l blk off cap (fun i j => (S blk (off + i * sz + j)).getD undef) ho hc hz (fun i j a c h1 h2 => ?_) (fun i j a c h1 h2 => ?_)
  · obtain ⟨x, hx, _⟩ := h i j a c h1 h2
    simp [hx]
  · obtain ⟨x, hx, hy⟩ := h i j a c h1 h2
    simpa [hx] using hy
theorem vp_ref {cs : List AV} {blk off : Nat} (h : ∀ (j : Nat) (c : AV), cs[j]? = some c → ∃ x, S blk (off + j) = some x ∧ VP S c x) : VP S (.ref cs) (.pointer (some ⟨blk, off, none⟩)) := by
  refine .ref cs blk off (fun j => (S blk (off + j)).getD undef) (fun j c hc => ?_) (fun j c hc => ?_)
  · obtain ⟨x, hx, _⟩ := h j c hc
    simp [hx]
  · obtain ⟨x, hx, hy⟩ := h j c hc
    simpa [hx] using hy

/-- A value that may be laid into cells. -/
theorem VP.cells {a : AV} {v : Value} (h : VP S a v) (ha : stoA a = true) : RL (VP S) a.cells v.cells ∧ ∀ (i : Nat) (x : Value), v.cells[i]? = some x → x.oneCell' = true := by
  have one : ∀ (a : AV) (v : Value), VP S a v → v.oneCell' = true → RL (VP S) [a] #[v] ∧ ∀ (i : Nat) (x : Value), (#[v] : Array Value)[i]? = some x → x.oneCell' = true := fun a v h h1 => by
    refine ⟨⟨rfl, fun i c x hc hx => ?_⟩, fun i x hx => ?_⟩
    · cases i with
      | zero => simp at hc hx; subst hc; subst hx; exact h
      | succ i => simp at hc
    · cases i with
      | zero => simp at hx; subst hx; exact h1
      | succ i => simp at hx
  cases h with
  | agg cs vs hl hv h1 => exact ⟨⟨hl, hv⟩, h1⟩
  | tup cs vs hl hv => simp [stoA] at ha
  | undef v => simp [stoA] at ha
  | int k n => exact one _ _ (.int k n) rfl
  | bool b => exact one _ _ (.bool b) rfl
  | str s => exact one _ _ (.str s) rfl
  | nilp => exact one _ _ .nilp rfl
  | ref cs blk off vs hS hv => exact one _ _ (.ref cs blk off vs hS hv) rfl
  | slnil sz => exact one _ _ (.slnil sz) rfl
  | sl0 o sz A cap ho => exact one _ _ (.sl0 o sz A cap ho) rfl
  | slc o sz l blk off cap vs ho hc hz hS hv => exact one _ _ (.slc o sz l blk off cap vs ho hc hz hS hv) rfl
  | nilf => exact one _ _ .nilf rfl
  | nili => exact one _ _ .nili rfl
  | iface t a v h => exact one _ _ (.iface t a v h) rfl
theorem VR.cells {a : AV} {v : Value} (h : VR φ S a v) (ha : stoA a = true) : RL (R1 φ S) a.cells v.cells ∧ ∀ (i : Nat) (x : Value), v.cells[i]? = some x → x.oneCell' = true := by
  have one : ∀ (a : AV) (v : Value), R1 φ S a v → v.oneCell' = true → RL (R1 φ S) [a] #[v] ∧ ∀ (i : Nat) (x : Value), (#[v] : Array Value)[i]? = some x → x.oneCell' = true := fun a v h h1 => by
    refine ⟨⟨rfl, fun i c x hc hx => ?_⟩, fun i x hx => ?_⟩
    · cases i with
      | zero => simp at hc hx; subst hc; subst hx; exact h
      | succ i => simp at hc
    · cases i with
      | zero => simp at hx; subst hx; exact h1
      | succ i => simp at hx
  cases a with
  | agg cs => obtain ⟨vs, rfl, h2, h3⟩ := vr_agg h; exact ⟨h2, h3⟩
  | tup cs => simp [stoA] at ha
  | undef => simp [stoA] at ha
  | bad => simp [stoA] at ha
  | ptr b off => obtain ⟨k, h1, rfl⟩ := vr_ptr h; exact one _ _ ⟨k, h1, rfl⟩ rfl
  | ptrOpt b off => obtain ⟨k, h1, rfl | rfl⟩ := h <;> exact one _ _ ⟨k, h1, by simp⟩ rfl
  | iter b => obtain ⟨k, h1, rfl⟩ := vr_iter h; exact one _ _ ⟨k, h1, rfl⟩ rfl
  | fn f x y => obtain ⟨x', y', rfl, h1, h2⟩ := vr_fn h; exact one _ _ ⟨x', y', rfl, h1, h2⟩ rfl
  | int k n => cases vr_int h; exact one _ _ (VP.int k n).r1 rfl
  | bool b => cases vr_bool h; exact one _ _ (VP.bool b).r1 rfl
  | str s => cases vr_str h; exact one _ _ (VP.str s).r1 rfl
  | nilp => cases vr_nilp h; exact one _ _ VP.nilp.r1 rfl
  | nilf => cases vr_nilf h; exact one _ _ VP.nilf.r1 rfl
  | nili => cases vr_nili h; exact one _ _ VP.nili.r1 rfl
  | iface t a => obtain ⟨x, rfl, h1⟩ := vr_iface h; exact one _ _ (VP.iface t a x h1).r1 rfl
  | ref cs => obtain ⟨b, o, rfl, h1⟩ := vr_ref h; exact one _ _ (vp_ref h1).r1 rfl
  | sl o sz l =>
    have h' : R1 φ S (.sl o sz l) v := h
    obtain ⟨A, cap, rfl, _⟩ := vr_sl h
    exact one _ _ h' rfl
end inv

section operands
variable {P : Program} {φ : List Nat} {S : Frz} {env : Env} {a : Act}
theorem bytes_eq (s : ByteArray) : (⟨s.data.toList.toArray⟩ : ByteArray) = s := by cases s; simp
theorem leafA_rel {T : TypeId} {v : Value} {x : AV} (h : leafA P T v = some x) : VP S x v := by
  unfold leafA at h
  split at h
  · cases h; exact .bool _
  · cases h; exact .int _ _
  · rename_i s; cases h
    have := VP.str (S := S) s.data.toList
    rwa [bytes_eq] at this
  · cases h; exact .nilp
  · cases he : esz P T with
    | none => simp [he] at h
    | some m => simp [he] at h; subst h; exact .slnil m
  · cases h; exact .nilf
  · cases h; exact .nili
  · cases h
theorem ev_rel (h : ∀ t, VR φ S (env t) (a.tmps.getD t undef)) (T : TypeId) (x : Operand) : VR φ S (ev P env T x) (a.eval x) := by
  cases x with
  | tmp t => exact h t
  | const v =>
    simp only [ev, Act.eval]
    cases hl : leafA P T v with
    | none => exact VR.undef
    | some x => exact (leafA_rel hl).vr
  | global g => exact VR.undef
  | func f => exact ⟨#[], #[], rfl, ⟨rfl, fun i c v h1 _ => by simp at h1⟩, ⟨rfl, fun i c v h1 _ => by simp at h1⟩⟩
end operands
end Go.Pv
/- Operations that touch no block of ours: the machine does what 'opVal' tells. First part: words, loads, addresses, texts. -/
namespace Go.Pv
open Go

def Yields (P : Program) (φ : List Nat) (S : Frz) (w : World) (s : Sem Next) (av : AV) : Prop :=
  ∃ v w' S', s.run P w = .ok (.value v) w' ∧ Longer w w' ∧ S.le S' ∧ (∀ k o v, S' k o = some v → S k o = some v ∨ w.heap.size ≤ k) ∧ Sok S' w' ∧ VR φ S' av v ∧
    ∀ sz l, av = .sl .yes sz l → Own1 φ S' w' sz l.length v ∧ ∀ g, blkOf v = some g → w.heap.size ≤ g

theorem Longer.refl (w : World) : Longer w w := ⟨rfl, rfl, rfl, Nat.le_refl _, fun _ _ => rfl⟩

theorem Yields.same {P : Program} {φ : List Nat} {S : Frz} {w : World} {s : Sem Next} {av : AV} {v : Value} (hs : s.run P w = .ok (.value v) w) (hok : Sok S w) (hv : VR φ S av v)
    (hno : ∀ sz l, av ≠ .sl .yes sz l) : Yields P φ S w s av :=
  ⟨v, w, S, hs, Longer.refl w, fun _ _ _ h => h, fun _ _ _ h => .inl h, hok, hv, fun sz l e => absurd e (hno sz l)⟩

section
variable {P : Program} {w : World}
theorem run_isAgg {T : TypeId} {b : Bool} (h : aggB P T = some b) : (isAgg T).run P w = .ok b w := by
  unfold aggB at h
  cases hu : P.underlying T with
  | none => simp [hu] at h
  | some d =>
    rw [hu] at h
    cases d <;> simp at h <;> subst h <;> simp [isAgg, run_underlying hu]
theorem run_tsz {T : TypeId} {n : Nat} (h : tsz P T = some n) : (sizeOf T).run P w = .ok n w := by
  unfold tsz at h
  cases hi : P.info? T with
  | none => simp [hi] at h
  | some i =>
    simp [hi] at h
    simp [sizeOf, typeInfo, hi, h]
end

theorem add_plain (k o j : Nat) : (⟨k, o, none⟩ : Addr).add j = ⟨k, o + j, none⟩ := by
  unfold Addr.add
  split
  · rename_i h; simp [h]
  · rfl

section lists
/-- Writing a row of values one by one. -/
theorem fold_set : ∀ (l : List Value) (k off : Nat) (cells : Array Value), off + k + l.length ≤ cells.size →
    ((l.zipIdx k).foldl (fun cs (p : Value × Nat) => cs.setIfInBounds (off + p.2) p.1) cells).toList = cells.toList.take (off + k) ++ l ++ cells.toList.drop (off + k + l.length)
  | [], k, off, cells, _ => by simp
  | v :: l, k, off, cells, h => by
    simp only [List.length_cons] at h
    have ih := fold_set l (k + 1) off (cells.setIfInBounds (off + k) v) (by simp; omega)
    simp only [List.zipIdx_cons, List.foldl_cons]
    rw [ih]
    simp only [Array.toList_setIfInBounds, List.length_cons]
    have e := list_seg_step cells.toList (off + k) v l (by simp; omega)
    simpa only [Nat.add_assoc, List.length_cons] using e
end lists

section loads
variable {P : Program} {φ : List Nat} {S : Frz} {w : World} {σ : List Blk}

/-- A load, out of a row of cells that the machine has at a place. -/
theorem load_row {T : TypeId} {cs : List AV} {av : AV} {k off : Nat} (vs : List Value) (hl : cs.length = vs.length) (hr : ∀ (i : Nat) (c : AV) (v : Value), cs[i]? = some c → vs[i]? = some v → R1 φ S c v)
    (hc : ∀ (i : Nat) (v : Value), vs[i]? = some v → w.cell? ⟨k, off + i, none⟩ = some v) (h1 : ∀ (i : Nat) (v : Value), vs[i]? = some v → v.oneCell' = true)
    (h : takeA P T cs = some av) : ∃ v, (loadVar T ⟨k, off, none⟩).run P w = .ok v w ∧ VR φ S av v ∧ ∀ sz l, av ≠ .sl .yes sz l := by
  unfold takeA at h
  split at h
  · rename_i n ha hn
    split at h
    · rename_i hle
      cases h
      have hcells := run_loadCells_list (P := P) w ⟨k, off, none⟩ (vs.take n) (fun j v hj => by
        rw [List.getElem?_take] at hj
        split at hj
        · rw [add_plain]; exact hc j v hj
        · cases hj)
      have hlen : (vs.take n).length = n := by simp; omega
      rw [hlen] at hcells
      refine ⟨.agg (vs.take n).toArray, by simp [loadVar, run_isAgg ha, run_tsz hn, hcells], ⟨_, rfl, ⟨by simp; omega, fun i c v hc' hv' => ?_⟩, fun i v hv' => ?_⟩, by simp⟩
      · simp only [List.getElem?_map, List.getElem?_take] at hc'
        simp only [List.getElem?_toArray, List.getElem?_take] at hv'
        split at hc'
        · rename_i hi
          rw [if_pos hi] at hv'
          simp only [Option.map_eq_some_iff] at hc'
          obtain ⟨c', hc', rfl⟩ := hc'
          exact (hr i c' v hc' hv').weak
        · simp at hc'
      · simp only [List.getElem?_toArray, List.getElem?_take] at hv'
        split at hv'
        · exact h1 i v hv'
        · cases hv'
    · cases h
  · rename_i ha
    cases h0 : cs[0]? with
    | none => simp [h0] at h
    | some c =>
      simp [h0] at h
      subst h
      have hlt : 0 < vs.length := by rw [← hl]; exact (List.getElem?_eq_some_iff.1 h0).1
      have hv0 : vs[0]? = some vs[0] := by simp [hlt]
      refine ⟨vs[0], ?_, (hr 0 c _ h0 hv0).weak.vr, weak_no c⟩
      have hcell := hc 0 _ hv0
      simp only [Nat.add_zero] at hcell
      simp [loadVar, run_isAgg ha, hcell]
  · cases h

theorem op_load {T : TypeId} {a v : _} {av : AV} (hok : Sok S w) (hblk : ∀ (i k : Nat) (b : Blk), σ[i]? = some b → φ[i]? = some k → BlkRel φ S w k b) (hv : VR φ S a v)
    (h : loadV P σ T a = some av) : ∃ x, (Instr.loadAt T v).run P w = .ok x w ∧ VR φ S av x ∧ ∀ sz l, av ≠ .sl .yes sz l := by
  unfold loadV at h
  split at h
  · rename_i b off
    obtain ⟨k, hk, rfl⟩ := vr_ptr hv
    cases hc : cellsAt σ b with
    | none => simp [hc] at h
    | some l =>
      simp only [hc] at h
      obtain ⟨T', hb⟩ : ∃ T', σ[b]? = some (.cells T' l) := by
        unfold cellsAt at hc
        split at hc
        · rename_i T' l' hl'; cases hc; exact ⟨T', hl'⟩
        · cases hc
      obtain ⟨cs, h1, ⟨h2, h3⟩, h4⟩ := hblk b k _ hb hk
      obtain ⟨x, h5, h6⟩ := load_row (P := P) (φ := φ) (S := S) (w := w) (k := k) (off := off) (cs.toList.drop off) (by simp [h2]) (fun i c v hc hv => h3 (off + i) c v (by simpa using hc) (by simpa using hv))
        (fun i v hv => by rw [cell_heap h1]; simpa using hv) (fun i v hv => h4 (off + i) v (by simpa using hv)) h
      exact ⟨x, by simp [Instr.loadAt, Instr.sureAddr, h5], h6⟩
  · rename_i cs
    obtain ⟨blk, off, rfl, hr⟩ := vr_ref hv
    have hr' : ∀ j, j < cs.length → ∃ x, S blk (off + j) = some x ∧ VP S (cs.getD j .undef) x := fun j hj => hr j _ (by simp [List.getD, hj])
    obtain ⟨x, h5, h6⟩ := load_row (P := P) (φ := φ) (S := S) (w := w) (k := blk) (off := off) ((List.range cs.length).map fun j => (S blk (off + j)).getD undef) (by simp)
      (fun i c v hc hv => by
        have hi : i < cs.length := (List.getElem?_eq_some_iff.1 hc).1
        obtain ⟨x, hx, hy⟩ := hr i c hc
        simp [hi, hx] at hv
        subst hv
        exact hy.r1)
      (fun i v hv => by
        by_cases hi : i < cs.length
        · obtain ⟨x, hx, hy⟩ := hr' i hi
          simp [hi, hx] at hv
          subst hv
          exact (hok _ _ _ hx).1
        · simp [hi] at hv)
      (fun i v hv => by
        by_cases hi : i < cs.length
        · obtain ⟨x, hx, hy⟩ := hr' i hi
          simp [hi, hx] at hv
          subst hv
          exact (hok _ _ _ hx).2
        · simp [hi] at hv) h
    exact ⟨x, by simp [Instr.loadAt, Instr.sureAddr, h5], h6⟩
  · cases h
end loads

section arith
variable {P : Program} {φ : List Nat} {S : Frz} {w : World}

theorem binI_run {op : BinOp} {k : IntKind} {a b : Int} {av : AV} (T : TypeId) (h1 : op ≠ .shl) (h2 : op ≠ .shr) (h : binI op k a b = some av) : ∃ v, (binOp op T (.int k a) (.int k b)).run P w = .ok v w ∧ VP S av v ∧ ∀ sz l, av ≠ .sl .yes sz l := by
  cases op
  case quo =>
    simp only [binI] at h
    split at h
    · cases h
    · rename_i hb; cases h; exact ⟨.int k (k.wrap (a.tdiv b)), by simp [binOp, Op.intDiv, hb], .int _ _, by simp⟩
  case rem =>
    simp only [binI] at h
    split at h
    · cases h
    · rename_i hb; cases h; exact ⟨.int k (a.tmod b), by simp [binOp, Op.intDiv, hb], .int _ _, by simp⟩
  case andNot => simp only [binI] at h; cases h; exact ⟨.int k (k.wrap (BitVec.ofInt k.bits a &&& ~~~ BitVec.ofInt k.bits b).toNat), by simp [binOp, Op.intBits], .int _ _, by simp⟩
  case shl => exact absurd rfl h1
  case shr => exact absurd rfl h2
  all_goals (simp only [binI] at h; cases h; refine ⟨_, by simp [binOp, Op.intArith, Op.intBits, Op.intCmp]; rfl, ?_, by simp⟩; first | exact .int _ _ | exact .bool _)

theorem binS_run {op : BinOp} {a b : List UInt8} {av : AV} (T : TypeId) (h : binS op a b = some av) : ∃ v, (binOp op T (.string ⟨a.toArray⟩) (.string ⟨b.toArray⟩)).run P w = .ok v w ∧ VP S av v ∧ ∀ sz l, av ≠ .sl .yes sz l := by
  have hl : ∀ l : List UInt8, (⟨l.toArray⟩ : ByteArray).toList = l := fun l => by simp
  have hs : ∀ l : List UInt8, (⟨l.toArray⟩ : ByteArray).size = l.length := fun l => by simp [ByteArray.size]
  cases op
  case add =>
    simp only [binS] at h
    split at h
    · rename_i hb
      cases h
      have hb' : ¬ (9223372036854775807 < ((a.length : Int) + (b.length : Int))) := by unfold strLim at hb; omega
      refine ⟨.string ⟨(a ++ b).toArray⟩, ?_, .str _, by simp⟩
      simp [binOp, Op.stringOp, hs, hb']
      exact ByteArray.ext (by simp)
    · cases h
  case eql => simp only [binS] at h; cases h; exact ⟨.bool (a == b), by simp [binOp, Op.stringOp, hl], .bool _, by simp⟩
  case neq => simp only [binS] at h; cases h; exact ⟨.bool (!(a == b)), by simp [binOp, Op.stringOp, hl], .bool _, by simp⟩
  case lss => simp only [binS] at h; cases h; exact ⟨.bool (Op.bytesLess a b), by simp [binOp, Op.stringOp, hl], .bool _, by simp⟩
  case leq => simp only [binS] at h; cases h; exact ⟨.bool (Op.bytesLess a b || a == b), by simp [binOp, Op.stringOp, hl], .bool _, by simp⟩
  case gtr => simp only [binS] at h; cases h; exact ⟨.bool (!(Op.bytesLess a b || a == b)), by simp [binOp, Op.stringOp, hl], .bool _, by simp⟩
  case geq => simp only [binS] at h; cases h; exact ⟨.bool (!(Op.bytesLess a b)), by simp [binOp, Op.stringOp, hl], .bool _, by simp⟩
  all_goals (simp only [binS] at h; cases h)

theorem kind_of {T : TypeId} {n : Nat} (h : kindT P T = n) (hn : n ≠ 0) : ∃ d, P.underlying T = some d ∧ (n = 1 → d = .bool) ∧ (n = 2 → ∃ m, d = .interface m) ∧ (n = 3 → ∃ a b c, d = .func a b c) ∧ (n = 4 → ∃ e, d = .pointer e) := by
  unfold kindT at h
  split at h <;> subst h <;> first
    | exact absurd rfl hn
    | (rename_i hu; exact ⟨_, hu, by simp⟩)
theorem equal_of {T : TypeId} {u v : Value} {b : Bool} (h : ∀ d, (Op.equalIn (d + 1) T u v).run P w = .ok b w) : (Op.equal T u v).run P w = .ok b w := h 9999
/-- Two values that are compared otherwise than as words. -/
def Plain2 (u v : Value) : Prop := (∀ op T, op = BinOp.eql → binOp op T u v = do pure (.bool (← Op.equal T u v))) ∧ (∀ op T, op = BinOp.neq → binOp op T u v = do pure (.bool (!(← Op.equal T u v)))) ∧
  ∀ op T X Y, eqGuard op T X Y u v = pure ()
def Plain3 (P : Program) (w : World) (T : TypeId) (u v : Value) : Prop := ∀ op X Y, (eqGuard op T X Y u v).run P w = .ok () w
theorem eqA_run {T : TypeId} {x y : AV} {u v : Value} {b : Bool} (hx : VR φ S x u) (hy : VR φ S y v) (h : eqA (kindT P T) x y = some b) :
    (Op.equal T u v).run P w = .ok b w ∧ Plain2 u v := by
  unfold eqA at h
  split at h <;> first | cases h | skip
  all_goals (split at h <;> first | cases h | skip)
  · rename_i a b hk
    cases vr_bool hx; cases vr_bool hy
    obtain ⟨d, hu, h1, _⟩ := kind_of hk (by simp)
    cases h1 rfl
    exact ⟨equal_of fun d => by simp [Op.equalIn, run_underlying hu], fun _ _ e => by subst e; rfl, fun _ _ e => by subst e; rfl, fun op _ _ _ => by cases op <;> rfl⟩
  · rename_i a b hk
    obtain ⟨z, rfl, _⟩ := vr_iface hx; cases vr_nili hy
    obtain ⟨d, hu, _, h1, _⟩ := kind_of hk (by simp)
    obtain ⟨m, rfl⟩ := h1 rfl
    exact ⟨equal_of fun d => by simp [Op.equalIn, run_underlying hu], fun _ _ e => by subst e; rfl, fun _ _ e => by subst e; rfl, fun op _ _ _ => by cases op <;> rfl⟩
  · rename_i a b c hk
    obtain ⟨f', c', rfl, _⟩ := vr_fn hx; cases vr_nilf hy
    obtain ⟨d, hu, _, _, h1, _⟩ := kind_of hk (by simp)
    obtain ⟨m1, m2, m3, rfl⟩ := h1 rfl
    exact ⟨equal_of fun d => by simp [Op.equalIn, run_underlying hu], fun _ _ e => by subst e; rfl, fun _ _ e => by subst e; rfl, fun op _ _ _ => by cases op <;> rfl⟩
  · rename_i hk
    cases vr_nilf hx; cases vr_nilf hy
    obtain ⟨d, hu, _, _, h1, _⟩ := kind_of hk (by simp)
    obtain ⟨m1, m2, m3, rfl⟩ := h1 rfl
    exact ⟨equal_of fun d => by simp [Op.equalIn, run_underlying hu], fun _ _ e => by subst e; rfl, fun _ _ e => by subst e; rfl, fun op _ _ _ => by cases op <;> rfl⟩
  · rename_i a b hk
    obtain ⟨k, _, rfl⟩ := vr_ptr hx; cases vr_nilp hy
    obtain ⟨d, hu, _, _, _, h1⟩ := kind_of hk (by simp)
    obtain ⟨m, rfl⟩ := h1 rfl
    exact ⟨equal_of fun d => by simp [Op.equalIn, run_underlying hu], fun _ _ e => by subst e; rfl, fun _ _ e => by subst e; rfl, fun op _ _ _ => by cases op <;> rfl⟩
  · rename_i hk
    cases vr_nilp hx; cases vr_nilp hy
    obtain ⟨d, hu, _, _, _, h1⟩ := kind_of hk (by simp)
    obtain ⟨m, rfl⟩ := h1 rfl
    exact ⟨equal_of fun d => by simp [Op.equalIn, run_underlying hu], fun _ _ e => by subst e; rfl, fun _ _ e => by subst e; rfl, fun op _ _ _ => by cases op <;> rfl⟩

theorem binA_run {T : TypeId} {op : BinOp} {x y av : AV} {u v : Value} (hx : VR φ S x u) (hy : VR φ S y v) (h : binA (kindT P T) op x y = some av) (X Y : Operand) :
    ∃ z, ((do eqGuard op T X Y u v; binOp op T u v) : Sem Value).run P w = .ok z w ∧ VP S av z ∧ ∀ sz l, av ≠ .sl .yes sz l := by
  unfold binA at h
  split at h
  · rename_i k a k' b
    cases vr_int hx; cases vr_int hy
    have hg : ∀ op, (eqGuard op T X Y (.int k a) (.int k' b)).run P w = .ok () w := fun op => by cases op <;> rfl
    split at h
    · split at h
      · cases h
      · rename_i hb; cases h
        exact ⟨.int k (k.wrap (a * 2 ^ (min b.toNat k.bits))), by simp [hg, binOp, Op.shift, hb], .int _ _, by simp⟩
    · split at h
      · cases h
      · rename_i hb; cases h
        exact ⟨.int k (a.fdiv (2 ^ (min b.toNat k.bits))), by simp [hg, binOp, Op.shift, hb], .int _ _, by simp⟩
    · split at h
      · rename_i h1 h2 hk
        subst hk
        obtain ⟨z, h3, h4⟩ := binI_run (P := P) (w := w) (S := S) T (fun e => h1 e) (fun e => h2 e) h
        exact ⟨z, by simp [hg, h3], h4⟩
      · cases h
  · rename_i a b
    cases vr_str hx; cases vr_str hy
    have hg : ∀ op, (eqGuard op T X Y (.string ⟨a.toArray⟩) (.string ⟨b.toArray⟩)).run P w = .ok () w := fun op => by cases op <;> rfl
    obtain ⟨z, h3, h4⟩ := binS_run (P := P) (w := w) (S := S) T h
    exact ⟨z, by simp [hg, h3], h4⟩
  · split at h
    · cases he : eqA (kindT P T) x y with
      | none => simp [he] at h
      | some b =>
        simp [he] at h; subst h
        obtain ⟨h1, h2⟩ := eqA_run (P := P) (w := w) hx hy he
        exact ⟨.bool b, by rw [h2.2.2, h2.1 _ _ rfl]; simp [h1], .bool _, by simp⟩
    · cases he : eqA (kindT P T) x y with
      | none => simp [he] at h
      | some b =>
        simp [he] at h; subst h
        obtain ⟨h1, h2⟩ := eqA_run (P := P) (w := w) hx hy he
        exact ⟨.bool (!b), by rw [h2.2.2, h2.2.1 _ _ rfl]; simp [h1], .bool _, by simp⟩
    · cases h

/-! ### Two structs -/
theorem eqLeaf_run {d : Nat} {T : TypeId} {x y : AV} {u v : Value} {r : Bool} (hx : R1 φ S x u) (hy : R1 φ S y v) (h : eqLeaf (P.underlying T) x y = some r) : (Op.equalIn (d + 1) T u v).run P w = .ok r w := by
  unfold eqLeaf at h
  split at h
  · rename_i a b hu
    cases vr_bool hx.vr; cases vr_bool hy.vr; cases h
    simp [Op.equalIn, run_underlying hu]
  · rename_i k0 k a k' b hu
    cases vr_int hx.vr; cases vr_int hy.vr
    split at h
    · rename_i hk; cases h; simp [Op.equalIn, run_underlying hu, hk]
    · cases h
  · rename_i a b hu
    cases vr_str hx.vr; cases vr_str hy.vr; cases h
    have hb : ((⟨a.toArray⟩ : ByteArray) == ⟨b.toArray⟩) = (a == b) := by
      show (a.toArray == b.toArray) = (a == b)
      rw [Bool.eq_iff_iff]; simp
    simp [Op.equalIn, run_underlying hu, hb]
  · cases h
def allO {α : Type} (q : α → Option Bool) : List α → Option Bool
  | [] => some true
  | x :: l => match q x with
    | some true => allO q l
    | some false => some false
    | none => none
theorem forIn_all {α : Type} (g : α → Option Bool × Unit → Sem (ForInStep (Option Bool × Unit))) (q : α → Option Bool) : ∀ (l : List α) (r : Bool), allO q l = some r → (∀ x b, q x = some b → (g x (none, ())).run P w = .ok (if b then .yield (none, ()) else .done (some false, ())) w) →
    (forIn l (none, ()) g).run P w = .ok (if r then (none, ()) else (some false, ())) w
  | [], r, h, _ => by simp only [allO] at h; cases h; simp
  | x :: l, r, h, hg => by
    simp only [allO] at h
    rw [List.forIn_cons]
    split at h
    · rename_i hq
      simp [hg x true hq, forIn_all g q l r h hg]
    · rename_i hq
      cases h
      simp [hg x false hq]
    · cases h
def eqFld (P : Program) (a b : List AV) (f : Field) : Option Bool := if f.name = "_" then none else match aggB P f.type, a[f.offset]?, b[f.offset]? with
  | some false, some x, some y => eqLeaf (P.underlying f.type) x y
  | _, _, _ => none
theorem eqFlds_all {a b : List AV} : ∀ (fs : List Field), eqFlds P a b fs = allO (eqFld P a b) fs
  | [] => rfl
  | f :: fs => by
    simp only [eqFlds, allO, eqFld, eqFlds_all fs]
    by_cases hn : f.name = "_"
    · simp [hn]
    · simp only [hn, if_false]
      cases aggB P f.type with
      | none => rfl
      | some c =>
        cases c
        · cases a[f.offset]? with
          | none => rfl
          | some x =>
            cases b[f.offset]? with
            | none => rfl
            | some y => rfl
        · rfl
theorem eqAgg_run {T : TypeId} {a b : List AV} {u v : Value} {r : Bool} (hx : VR φ S (.agg a) u) (hy : VR φ S (.agg b) v) (h : eqAgg P T a b = some r) : (Op.equal T u v).run P w = .ok r w ∧ Plain3 P w T u v := by
  obtain ⟨us, rfl, ⟨hu1, hu2⟩, _⟩ := vr_agg hx
  obtain ⟨vs, rfl, ⟨hv1, hv2⟩, _⟩ := vr_agg hy
  unfold eqAgg at h
  split at h
  · rename_i fs hT
    split at h
    · rename_i hc
      rw [eqFlds_all] at h
      have key := forIn_all (P := P) (w := w) (α := Field)
      refine ⟨?_, ?_⟩
      · show (Op.equalIn (9998 + 1 + 1) T (.agg us) (.agg vs)).run P w = .ok r w
        rw [Op.equalIn]
        simp only [Sem.run_bind, run_underlying hT, Result.andThen_ok]
        simp [hc.2, ← Array.forIn_toList]
        rw [key _ (eqFld P a b) fs.toList r h]
        · cases r <;> simp
        · intro f b' hq
          unfold eqFld at hq
          split at hq
          · cases hq
          · rename_i hn
            split at hq
            · rename_i x y hag hxa hyb
              have h1 : f.offset < us.size := by rw [← hu1]; exact (List.getElem?_eq_some_iff.1 hxa).1
              have h2 : f.offset < vs.size := by rw [← hv1]; exact (List.getElem?_eq_some_iff.1 hyb).1
              have h3 := hu2 _ _ us[f.offset] hxa (by simp [h1])
              have h4 := hv2 _ _ vs[f.offset] hyb (by simp [h2])
              have h5 := eqLeaf_run (P := P) (w := w) (d := 9998) h3 h4 hq
              simp [hn, part, run_isAgg hag, h1, h2, h5]
              cases b' <;> simp
            · cases hq
      · exact fun op X Y => by
          cases op <;> simp [eqGuard, hc.1]
    · cases h
  · cases h
theorem binX_run {T : TypeId} {op : BinOp} {x y av : AV} {u v : Value} (hx : VR φ S x u) (hy : VR φ S y v) (X Y : Operand) (h : binX P op T (isC X || isC Y) x y = some av) :
    ∃ z, ((do eqGuard op T X Y u v; binOp op T u v) : Sem Value).run P w = .ok z w ∧ VP S av z ∧ ∀ sz l, av ≠ .sl .yes sz l := by
  have res : ∀ r, eqRes op r = some av → (∀ op, (eqGuard op T X Y u v).run P w = .ok () w) → (binOp .eql T u v).run P w = .ok (.bool r) w → (binOp .neq T u v).run P w = .ok (.bool (!r)) w → ∃ z, ((do eqGuard op T X Y u v; binOp op T u v) : Sem Value).run P w = .ok z w ∧ VP S av z ∧ ∀ sz l, av ≠ .sl .yes sz l := fun r h1 h2 h3 h4 => by
    unfold eqRes at h1
    split at h1 <;> cases h1
    · exact ⟨.bool r, by simp [h2, h3], .bool _, by simp⟩
    · exact ⟨.bool (!r), by simp [h2, h4], .bool _, by simp⟩
  unfold binX at h
  split at h
  · split at h
    · rename_i hc
      cases vr_nili hx; cases vr_nili hy
      obtain ⟨d, hu, _, h1, _⟩ := kind_of hc.2 (by simp)
      obtain ⟨m, rfl⟩ := h1 rfl
      have he : (Op.equal T .nilIface .nilIface).run P w = .ok true w := equal_of fun d => by simp [Op.equalIn, run_underlying hu]
      refine res true h (fun op => ?_) (by simp [binOp, he]) (by simp [binOp, he])
      have hxy : (∃ c, X = .const c) ∨ ∃ c, Y = .const c := by
        have := hc.1
        cases X <;> cases Y <;> simp_all [isC]
      rcases hxy with ⟨c, rfl⟩ | ⟨c, rfl⟩
      · cases op <;> simp [eqGuard]
      · cases op <;> cases X <;> simp [eqGuard]
    · cases h
  · split at h
    · rename_i r hr
      obtain ⟨h1, h2⟩ := eqAgg_run (P := P) (w := w) hx hy hr
      obtain ⟨us, rfl, _⟩ := vr_agg hx
      obtain ⟨vs, rfl, _⟩ := vr_agg hy
      exact res r h (fun op => h2 op X Y) (by simp [binOp, h1]) (by simp [binOp, h1])
    · cases h
  · split at h
    · rename_i a b c d hc
      obtain ⟨rfl, rfl, hp⟩ := hc
      obtain ⟨k, hk, rfl⟩ := vr_ptr hx
      obtain ⟨k', hk', rfl⟩ := vr_ptr hy
      rw [hk] at hk'; cases hk'
      unfold ptrOk at hp
      split at hp
      · rename_i e hu
        obtain ⟨n, hn⟩ := Option.isSome_iff_exists.1 hp
        have he : (Op.equal T (.pointer (some ⟨k, b, none⟩)) (.pointer (some ⟨k, b, none⟩))).run P w = .ok true w := equal_of fun d => by
          simp [Op.equalIn, run_underlying hu, run_tsz hn, sameAddr]
        exact res true h (fun op => by cases op <;> simp [eqGuard]) (by simp [binOp, he]) (by simp [binOp, he])
      · cases hp
    · cases h
  · exact binA_run hx hy h X Y

theorem unA_run {op : UnOp} {x av : AV} {u : Value} (hx : VR φ S x u) (h : unA op x = some av) : ∃ z, (Op.unary op u).run P w = .ok z w ∧ VP S av z ∧ ∀ sz l, av ≠ .sl .yes sz l := by
  unfold unA at h
  split at h
  · rename_i k n; cases vr_int hx; cases h; exact ⟨.int k (k.wrap (0 - n)), by simp [Op.unary, Op.intArith], .int _ _, by simp⟩
  · rename_i k n; cases vr_int hx
    simp only [binI, Option.some.injEq] at h
    subst h
    exact ⟨_, by simp only [Op.unary, Op.intBits]; rfl, .int _ _, by simp⟩
  · rename_i b; cases vr_bool hx; cases h; exact ⟨.bool (!b), by simp [Op.unary], .bool _, by simp⟩
  · cases h
end arith
end Go.Pv
/- Operations that touch no block of ours. Second part: fields, cuts, what is built. -/
namespace Go.Pv
open Go

section fields
variable {P : Program} {φ : List Nat} {S : Frz} {w : World}

theorem fld_of {T : TypeId} {i off n : Nat} {b : Bool} (h : fld P T i = some (off, n, b)) : ∃ fs f, P.underlying T = some (.struct fs) ∧ fs[i]? = some f ∧ f.offset = off ∧ tsz P f.type = some n ∧ aggB P f.type = some b := by
  unfold fld at h
  split at h
  · rename_i fs hu
    split at h
    · rename_i f hf
      split at h
      · rename_i m c h1 h2
        cases h
        exact ⟨fs, f, hu, hf, rfl, h1, h2⟩
      · cases h
    · cases h
  · cases h

theorem op_fieldAddr {T : TypeId} {i : Nat} {a av : AV} {v : Value} (hv : VR φ S a v)
    (h : faddrV P T i a = some av) : ∃ x, (Instr.fieldAt T v i).run P w = .ok x w ∧ VR φ S av x ∧ ∀ sz l, av ≠ .sl .yes sz l := by
  unfold faddrV at h
  split at h
  · rename_i off n b bb o hf
    cases h
    obtain ⟨fs, f, hu, hfi, rfl, hn, _⟩ := fld_of hf
    obtain ⟨k, hk, rfl⟩ := vr_ptr hv
    exact ⟨.pointer (some ⟨k, o + f.offset, none⟩), by simp [Instr.fieldAt, run_underlying hu, hfi, Instr.sureAddr, fieldPlace, run_tsz hn, add_plain], ⟨k, hk, rfl⟩, by simp⟩
  · rename_i off n b cs hf
    cases h
    obtain ⟨fs, f, hu, hfi, rfl, hn, _⟩ := fld_of hf
    obtain ⟨k, o, rfl, hr⟩ := vr_ref hv
    refine ⟨.pointer (some ⟨k, o + f.offset, none⟩), by simp [Instr.fieldAt, run_underlying hu, hfi, Instr.sureAddr, fieldPlace, run_tsz hn, add_plain], (vp_ref fun j c hc => ?_).vr, by simp⟩
    rw [List.getElem?_drop] at hc
    rw [Nat.add_assoc]
    exact hr _ c hc
  · cases h

theorem op_field {T : TypeId} {i : Nat} {a av : AV} {v : Value} (hv : VR φ S a v)
    (h : fieldV P T i a = some av) : ∃ x, (Instr.field T v i).run P w = .ok x w ∧ VR φ S av x ∧ ∀ sz l, av ≠ .sl .yes sz l := by
  unfold fieldV at h
  split at h
  · rename_i off n cs hf
    split at h
    · rename_i hle
      cases h
      obtain ⟨fs, f, hu, hfi, rfl, hn, hb⟩ := fld_of hf
      obtain ⟨vs, rfl, ⟨h1, h2⟩, h3⟩ := vr_agg hv
      refine ⟨.agg (vs.extract f.offset (f.offset + n)), by simp [Instr.field, run_underlying hu, hfi, part, run_isAgg hb, run_tsz hn, asAgg], ?_, by simp⟩
      refine ⟨_, rfl, ⟨by simp; omega, fun j c x hc hx => ?_⟩, fun j x hx => ?_⟩
      · simp only [List.getElem?_take, List.getElem?_drop] at hc
        rw [Array.getElem?_extract] at hx
        split at hc
        · split at hx
          · exact h2 _ _ _ hc hx
          · cases hx
        · cases hc
      · rw [Array.getElem?_extract] at hx
        split at hx
        · exact h3 _ _ hx
        · cases hx
    · cases h
  · rename_i off n cs hf
    obtain ⟨fs, f, hu, hfi, rfl, hn, hb⟩ := fld_of hf
    obtain ⟨vs, rfl, ⟨h1, h2⟩, h3⟩ := vr_agg hv
    cases hc : cs[f.offset]? with
    | none => simp [hc] at h
    | some c =>
      simp [hc] at h
      subst h
      have hlt : f.offset < vs.size := by rw [← h1]; exact (List.getElem?_eq_some_iff.1 hc).1
      have hx : vs[f.offset]? = some vs[f.offset] := by simp [hlt]
      exact ⟨vs[f.offset], by simp [Instr.field, run_underlying hu, hfi, part, run_isAgg hb, asAgg, hx], (h2 _ _ _ hc hx).weak.vr, weak_no _⟩
  · cases h

theorem esz_of {T : TypeId} {n : SlT} (h : esz P T = some n) : ∃ e i, P.underlying T = some (.slice e) ∧ P.info? e = some i ∧ i.size = n.n ∧ n.e = e := by
  unfold esz at h
  split at h
  · rename_i e hu
    cases hi : P.info? e with
    | none => simp [hi] at h
    | some i => simp [hi] at h; exact ⟨e, i, hu, hi, by rw [← h], by rw [← h]⟩
  · cases h
theorem arr_of {T : TypeId} {len sz : Nat} (h : arr P T = some (len, sz)) : ∃ e i, P.underlying T = some (.array len e) ∧ P.info? e = some i ∧ i.size = sz := by
  unfold arr at h
  split at h
  · rename_i n e hu
    cases hi : P.info? e with
    | none => simp [hi] at h
    | some i => simp [hi] at h; exact ⟨e, i, by rw [hu, h.1], hi, h.2⟩
  · cases h

theorem op_indexAddr {T : TypeId} {a b av : AV} {u v : Value} (hu : VR φ S a u) (hv : VR φ S b v)
    (h : iaddrV P T a b = some av) : ∃ x, (Instr.indexAt T u v).run P w = .ok x w ∧ VR φ S av x ∧ ∀ sz l, av ≠ .sl .yes sz l := by
  unfold iaddrV at h
  split at h
  · rename_i o sz l k n
    cases vr_int hv
    split at h
    · rename_i hc
      obtain ⟨e, i, hT, hi, hs, _⟩ := esz_of hc.1
      split at h
      · rename_i x hx
        cases h
        have hlt : n.toNat < l.length := (List.getElem?_eq_some_iff.1 hx).1
        obtain ⟨A, cap, rfl, hcap, _, hz, hr⟩ := vr_sl hu
        obtain ⟨blk, off, rfl, hr2⟩ := hr (by intro e; subst e; simp at hlt)
        have hb : 0 ≤ n ∧ n < (l.length : Int) := by omega
        refine ⟨.pointer (some ⟨blk, off + n.toNat * sz, none⟩), ?_, (vp_ref fun j c hc => ?_).vr, by simp⟩
        · simp [Instr.indexAt, asIntOf, run_underlying hT, hb, sizeOf, typeInfo, hi, hs, add_plain]
        · exact hr2 n.toNat j x c hx hc
      · cases h
    · cases h
  · rename_i b off k n
    cases vr_int hv
    split at h
    · rename_i len sz ha
      split at h
      · rename_i hc
        cases h
        obtain ⟨e, i, hT, hi, hs⟩ := arr_of ha
        obtain ⟨k', hk, rfl⟩ := vr_ptr hu
        exact ⟨.pointer (some ⟨k', off + n.toNat * sz, none⟩), by simp [Instr.indexAt, asIntOf, run_underlying hT, Instr.sureAddr, hc, sizeOf, typeInfo, hi, hs, add_plain], ⟨k', hk, rfl⟩, by simp⟩
      · cases h
    · cases h
  · cases h

theorem op_index {T : TypeId} {a b av : AV} {u v : Value} (hT : P.underlying T = some .string) (hu : VR φ S a u) (hv : VR φ S b v)
    (h : indexV a b = some av) : ∃ x, (Instr.index T u v).run P w = .ok x w ∧ VR φ S av x ∧ ∀ sz l, av ≠ .sl .yes sz l := by
  unfold indexV at h
  split at h
  · rename_i s k n
    cases vr_int hv
    cases vr_str hu
    split at h
    · rename_i hn
      split at h
      · rename_i c hc
        cases h
        have hc' : (⟨s.toArray⟩ : ByteArray)[n.toNat]? = some c := by
          have hlt := (List.getElem?_eq_some_iff.1 hc)
          obtain ⟨h1, h2⟩ := hlt
          have h3 : n.toNat < (⟨s.toArray⟩ : ByteArray).size := by simpa [ByteArray.size] using h1
          rw [getElem?_pos (⟨s.toArray⟩ : ByteArray) n.toNat h3, ← h2]
          rfl
        exact ⟨.int .u8 c.toNat, by simp [Instr.index, asIntOf, run_underlying hT, hn, hc'], (VP.int _ _).vr, by simp⟩
      · cases h
    · cases h
  · cases h

theorem cut_run {P : Program} {w : World} {len cap : Nat} {lo hi : Option AV} {lo' hi' : Option Value} {a b : Nat} (isS : Bool) (hlo : ∀ x, lo = some x → ∃ v, lo' = some v ∧ VR φ S x v) (hlo0 : lo = none → lo' = none)
    (hhi : ∀ x, hi = some x → ∃ v, hi' = some v ∧ VR φ S x v) (hhi0 : hi = none → hi' = none) (hle : len ≤ cap) (h : cutB len lo hi = some (a, b)) :
    (Instr.sliceBounds isS len cap lo' hi' none).run P w = .ok (a, b, cap) w ∧ a ≤ b ∧ b ≤ len := by
  have key : ∀ hh, hh ≤ len → ∀ (H : (hi' = none ∧ hh = len) ∨ ∃ k x, hi' = some (.int k x) ∧ 0 ≤ x ∧ x ≤ (len : Int) ∧ hh = x.toNat),
      ∀ a, a ≤ hh → ∀ (L : (lo' = none ∧ a = 0) ∨ ∃ k x, lo' = some (.int k x) ∧ 0 ≤ x ∧ x ≤ (hh : Int) ∧ a = x.toNat),
      (Instr.sliceBounds isS len cap lo' hi' none).run P w = .ok (a, hh, cap) w := by
    intro hh _ H a _ L
    rcases H with ⟨rfl, rfl⟩ | ⟨k, x, rfl, hx1, hx2, rfl⟩
    · rcases L with ⟨rfl, rfl⟩ | ⟨k', y, rfl, hy1, hy2, rfl⟩
      · simp [Instr.sliceBounds]
      · simp [Instr.sliceBounds, Instr.sliceBound, asIntOf, hy1, hy2]
    · have hx3 : x ≤ (cap : Int) := by omega
      rcases L with ⟨rfl, rfl⟩ | ⟨k', y, rfl, hy1, hy2, rfl⟩
      · simp [Instr.sliceBounds, Instr.sliceBound, asIntOf, hx1, hx3]
      · have hy3 : y ≤ x := by omega
        have hxm : max x 0 = x := by omega
        simp [Instr.sliceBounds, Instr.sliceBound, asIntOf, hx1, hx3, hy1, hy3, hxm]
  have hiC : ∀ hh, (match hi with | some (.int _ h) => if 0 ≤ h ∧ h ≤ len then some h.toNat else none | some _ => none | none => some len) = some hh →
      hh ≤ len ∧ ((hi' = none ∧ hh = len) ∨ ∃ k x, hi' = some (.int k x) ∧ 0 ≤ x ∧ x ≤ (len : Int) ∧ hh = x.toNat) := by
    intro hh hb
    cases hi with
    | none => simp at hb; subst hb; exact ⟨Nat.le_refl _, .inl ⟨hhi0 rfl, rfl⟩⟩
    | some x =>
      obtain ⟨v, hv1, hv2⟩ := hhi x rfl
      cases x with
      | int k n =>
        simp only at hb
        split at hb
        · rename_i hn; cases hb; cases vr_int hv2; exact ⟨by omega, .inr ⟨k, n, hv1, hn.1, hn.2, rfl⟩⟩
        · cases hb
      | _ => cases hb
  unfold cutB at h
  split at h
  · cases h
  · rename_i hh hb
    obtain ⟨h1, h2⟩ := hiC hh hb
    cases lo with
    | none => simp at h; obtain ⟨rfl, rfl⟩ := h; exact ⟨key _ h1 h2 _ (Nat.zero_le _) (.inl ⟨hlo0 rfl, rfl⟩), Nat.zero_le _, h1⟩
    | some x =>
      obtain ⟨v, hv1, hv2⟩ := hlo x rfl
      cases x with
      | int k n =>
        simp only at h
        split at h
        · rename_i hn; cases h; cases vr_int hv2; exact ⟨key _ h1 h2 _ (by omega) (.inr ⟨k, n, hv1, hn.1, hn.2, rfl⟩), by omega, h1⟩
        · cases h
      | _ => cases h

theorem op_slice_str {P : Program} {w : World} {T : TypeId} {s : List UInt8} {u : Value} {lo hi : Option AV} {lo' hi' : Option Value} {a b : Nat} (hT : P.underlying T = some .string) (hu : VR φ S (.str s) u)
    (hlo : ∀ x, lo = some x → ∃ v, lo' = some v ∧ VR φ S x v) (hlo0 : lo = none → lo' = none) (hhi : ∀ x, hi = some x → ∃ v, hi' = some v ∧ VR φ S x v) (hhi0 : hi = none → hi' = none)
    (h : cutB s.length lo hi = some (a, b)) : (Instr.sliceAt T u lo' hi' none).run P w = .ok (.string ⟨((s.take b).drop a).toArray⟩) w := by
  cases vr_str hu
  have hs : (⟨s.toArray⟩ : ByteArray).size = s.length := by simp [ByteArray.size]
  obtain ⟨h1, h2, h3⟩ := cut_run (P := P) (w := w) (φ := φ) (S := S) false hlo hlo0 hhi hhi0 (Nat.le_refl _) h
  have he : (⟨s.toArray⟩ : ByteArray).extract a b = ⟨((s.take b).drop a).toArray⟩ := by
    apply ByteArray.ext
    simp
    rw [List.drop_take]
  simp [Instr.sliceAt, run_underlying hT, Instr.slice, hs, h1, he]

theorem op_slice_sl {P : Program} {w : World} {T : TypeId} {o : Ow} {sz : SlT} {l : List AV} {u : Value} {lo hi : Option AV} {lo' hi' : Option Value} {a b : Nat} (hT : esz P T = some sz) (hu : VR φ S (.sl o sz l) u)
    (hlo : ∀ x, lo = some x → ∃ v, lo' = some v ∧ VR φ S x v) (hlo0 : lo = none → lo' = none) (hhi : ∀ x, hi = some x → ∃ v, hi' = some v ∧ VR φ S x v) (hhi0 : hi = none → hi' = none)
    (h : cutB l.length lo hi = some (a, b)) : ∃ x, (Instr.sliceAt T u lo' hi' none).run P w = .ok x w ∧ VP S (.sl .no sz ((l.take b).drop a)) x := by
  obtain ⟨e, i, hu', hi', hs, _⟩ := esz_of hT
  obtain ⟨A, cap, rfl, hcap, _, hz, hr⟩ := vr_sl hu
  obtain ⟨h1, h2, h3⟩ := cut_run (P := P) (w := w) (φ := φ) (S := S) true hlo hlo0 hhi hhi0 hcap h
  refine ⟨.slice (if cap = a then A else A.map (·.add (a * sz))) (b - a) (cap - a), by simp [Instr.sliceAt, run_underlying hu', Instr.slice, h1, sizeOf, typeInfo, hi', hs], ?_⟩
  by_cases hab : a = b
  · subst hab
    have : (l.take a).drop a = [] := by rw [List.drop_eq_nil_iff]; simp; omega
    rw [this, Nat.sub_self]
    exact .sl0 _ _ _ _ (by simp)
  · have hne : l ≠ [] := by intro e; subst e; simp at h3; omega
    obtain ⟨blk, off, rfl, hr2⟩ := hr hne
    have hca : cap ≠ a := by omega
    have hlen : ((l.take b).drop a).length = b - a := by simp; omega
    rw [if_neg hca, ← hlen]
    simp only [Option.map_some, add_plain]
    refine vp_sl .no (by simp) (by omega) (fun x hx => hz x (List.mem_of_mem_take (List.mem_of_mem_drop hx))) fun i j x c hx hc => ?_
    rw [List.getElem?_drop, List.getElem?_take] at hx
    split at hx
    · obtain ⟨y, hy, hy'⟩ := hr2 (a + i) j x c hx hc
      refine ⟨y, ?_, hy'⟩
      rw [← hy]
      congr 1
      rw [Nat.add_mul]
      omega
    · cases hx
end fields
end Go.Pv
/- Operations that touch no block of ours. Third part: structs and slices that are built. -/
namespace Go.Pv
open Go

section build
variable {P : Program} {φ : List Nat} {S : Frz} {w : World}

theorem zipLeaf_rel : ∀ (ts : List TypeId) (vs : List Value) (l : List AV), zipLeaf P ts vs = some l → l.length = vs.length ∧ ∀ (i : Nat) (c : AV) (v : Value), l[i]? = some c → vs[i]? = some v → VP S c v ∧ v.oneCell' = true
  | [], [], l, h => by simp [zipLeaf] at h; subst h; simp
  | t :: ts, v :: vs, l, h => by
    simp only [zipLeaf] at h
    split at h
    · rename_i a l' ha hl
      cases h
      obtain ⟨h1, h2⟩ := zipLeaf_rel ts vs l' hl
      refine ⟨by simp [h1], fun i c x hc hx => ?_⟩
      cases i with
      | zero =>
        simp at hc hx; subst hc; subst hx
        exact ⟨leafA_rel ha, by unfold leafA at ha; split at ha <;> first | rfl | cases ha⟩
      | succ i => exact h2 i c x (by simpa using hc) (by simpa using hx)
    · cases h
  | [], _ :: _, l, h => by simp [zipLeaf] at h
  | _ :: _, [], l, h => by simp [zipLeaf] at h

theorem zero_run {T : TypeId} {cs : List AV} (h : zeroA P T = some cs) : ∃ z, (zeroValue T).run P w = .ok z w ∧ RL (VP S) cs z.cells ∧ ∀ (i : Nat) (v : Value), z.cells[i]? = some v → v.oneCell' = true := by
  unfold zeroA at h
  split at h
  · rename_i i hi
    split at h
    · rename_i z hz
      obtain ⟨h1, h2⟩ := zipLeaf_rel (S := S) _ _ _ h
      have h1' : cs.length = z.cells.size := by simpa using h1
      refine ⟨z, by simp [zeroValue, typeInfo, hi, hz], ⟨h1', fun j c v hc hv => (h2 j c v hc (by simpa using hv)).1⟩, fun j v hv => ?_⟩
      have hlt : j < cs.length := by rw [h1']; exact (Array.getElem?_eq_some_iff.1 hv).1
      exact (h2 j cs[j] v (by simp [hlt]) (by simpa using hv)).2
    · cases h
  · cases h

/-- Cells with a value laid over them, on both sides. -/
theorem RL.lay {r : AV → Value → Prop} {cs vs : List AV} {xs ys : Array Value} {off : Nat} (h : RL r cs xs) (h' : RL r vs ys) (hle : off + vs.length ≤ cs.length) :
    RL r (cs.take off ++ vs ++ cs.drop (off + vs.length)) (xs.toList.take off ++ ys.toList ++ xs.toList.drop (off + ys.toList.length)).toArray := by
  obtain ⟨h1, h2⟩ := h
  obtain ⟨h3, h4⟩ := h'
  refine ⟨by simp; omega, fun i c v hc hv => ?_⟩
  simp only [List.getElem?_toArray] at hv
  simp only [List.append_assoc, List.getElem?_append, List.length_take, List.getElem?_take, List.getElem?_drop, Array.length_toList] at hc hv
  have e1 : min off cs.length = off := by omega
  have e2 : min off xs.size = off := by omega
  rw [e1] at hc
  rw [e2] at hv
  by_cases a1 : i < off
  · simp only [a1, if_true] at hc hv
    exact h2 i c v hc (by simpa using hv)
  · simp only [a1, if_false] at hc hv
    rw [← h3] at hv
    by_cases a2 : i - off < vs.length
    · simp only [a2, if_true] at hc hv
      exact h4 _ c v hc (by simpa using hv)
    · simp only [a2, if_false] at hc hv
      exact h2 _ c v hc (by simpa using hv)
theorem one_lay {xs ys : Array Value} {off : Nat} (h : ∀ (i : Nat) (v : Value), xs[i]? = some v → v.oneCell' = true) (h' : ∀ (i : Nat) (v : Value), ys[i]? = some v → v.oneCell' = true) (n : Nat) :
    ∀ (i : Nat) (v : Value), (xs.toList.take off ++ ys.toList ++ xs.toList.drop n).toArray[i]? = some v → v.oneCell' = true := by
  intro i v hv
  have hm : v ∈ xs.toList.take off ++ ys.toList ++ xs.toList.drop n := List.mem_of_getElem? (by simpa using hv)
  simp only [List.mem_append] at hm
  have inx : ∀ v, v ∈ xs.toList → v.oneCell' = true := fun v hv => by
    obtain ⟨j, hj⟩ := List.getElem?_of_mem hv
    exact h j v (by simpa using hj)
  rcases hm with (hm | hm) | hm
  · exact inx v (List.mem_of_mem_take hm)
  · obtain ⟨j, hj⟩ := List.getElem?_of_mem hm
    exact h' j v (by simpa using hj)
  · exact inx v (List.mem_of_mem_drop hm)

theorem fill_cons (place : Nat → Option (Nat × Nat)) (cells : Array Value) (i : Nat) (v : Value) (rest : List (Nat × Value)) (off n : Nat) (hp : place i = some (off, n)) (hn : v.cells.size = n) (hle : off + n ≤ cells.size) :
    Instr.fill place cells ((i, v) :: rest) = Instr.fill place (cells.toList.take off ++ v.cells.toList ++ cells.toList.drop (off + v.cells.toList.length)).toArray rest := by
  have hc : ¬ (v.cells.size ≠ n ∨ off + v.cells.size > cells.size) := by omega
  have hf : v.cells.zipIdx.foldl (fun cs (p : Value × Nat) => cs.setIfInBounds (off + p.2) p.1) cells = (cells.toList.take off ++ v.cells.toList ++ cells.toList.drop (off + v.cells.toList.length)).toArray := by
    have := fold_set v.cells.toList 0 off cells (by simp; omega)
    apply Array.ext'
    rw [← Array.foldl_toList, Array.toList_zipIdx, this]
    simp
  rw [Instr.fill, hp]
  simp only [Bool.or_eq_true, decide_eq_true_eq]
  rw [if_neg (by simpa using hc)]
  exact congrArg (fun z => Instr.fill place z rest) hf

theorem fill_build {env : Env} {a : Act} (hev : ∀ T x, VR φ S (ev P env T x) (a.eval x)) {fs : List (Nat × Nat)} {ts : List TypeId} {place : Nat → Option (Nat × Nat)} (hp : ∀ i, place i = fs[i]?) :
    ∀ (l : List (Nat × Operand)) (cs out : List AV) (xs : Array Value), RL (R1 φ S) cs xs → (∀ (i : Nat) (v : Value), xs[i]? = some v → v.oneCell' = true) → buildA P env fs ts cs l = some out →
      ∃ ys, Instr.fill place xs (l.map fun p => (p.1, a.eval p.2)) = some ys ∧ RL (R1 φ S) out ys ∧ ∀ (i : Nat) (v : Value), ys[i]? = some v → v.oneCell' = true
  | [], cs, out, xs, h1, h2, h => by
    simp [buildA] at h; subst h
    exact ⟨xs, by simp [Instr.fill], h1, h2⟩
  | (i, x) :: l, cs, out, xs, h1, h2, h => by
    simp only [buildA] at h
    split at h
    · rename_i off n T hf ht
      split at h
      · rename_i hc
        obtain ⟨hc1, hc2, hc3⟩ := hc
        have hst : stoA (weak (ev P env T x)) = true := by
          unfold weak; split
          · rfl
          · exact hc3
        obtain ⟨h3, h4⟩ := ((hev T x).weak).cells hst
        have hsz : (a.eval x).cells.size = n := by rw [← h3.1]; exact hc1
        have hxs : off + n ≤ xs.size := by rw [← h1.1]; exact hc2
        have := fill_build hev hp l _ out _ (h1.lay h3 (by rw [hc1]; exact hc2)) (one_lay h2 h4 _) (by rw [hc1]; exact h)
        obtain ⟨ys, h5, h6⟩ := this
        refine ⟨ys, ?_, h6⟩
        rw [List.map_cons, fill_cons place xs i (a.eval x) _ off n (by rw [hp]; exact hf) hsz hxs]
        exact h5
      · cases h
    · cases h

theorem flds_run {T : TypeId} {l : List (Nat × Nat)} (h : flds P T = some l) : ∃ fs, P.underlying T = some (.struct fs) ∧
    (fs.mapM fun f => Prod.mk f.offset <$> sizeOf f.type).run P w = .ok l.toArray w := by
  unfold flds at h
  split at h
  · rename_i fs hu
    refine ⟨fs, hu, ?_⟩
    have key : ∀ (fs : List Field) (l : List (Nat × Nat)), (fs.mapM fun f => (tsz P f.type).map fun n => (f.offset, n)) = some l →
        (fs.mapM fun f => Prod.mk f.offset <$> sizeOf f.type).run P w = .ok l w := by
      intro fs
      induction fs with
      | nil => intro l h; simp at h; subst h; simp
      | cons f fs ih =>
        intro l h
        rw [List.mapM_cons] at h
        cases hf : tsz P f.type with
        | none => simp [hf] at h
        | some n =>
          cases hr : (fs.mapM fun f => (tsz P f.type).map fun n => (f.offset, n)) with
          | none => simp [hf, hr] at h
          | some r =>
            simp [hf, hr] at h
            subst h
            have := ih r hr
            simp [List.mapM_cons, run_tsz hf, this]
    rw [Array.mapM_eq_mapM_toList]
    simp [key _ _ h]
  · cases h

theorem op_build {env : Env} {a : Act} (hev : ∀ T x, VR φ S (ev P env T x) (a.eval x)) {T : TypeId} {fs : List (Nat × Nat)} {z out : List AV} {parts : Array (Nat × Operand)}
    (h1 : flds P T = some fs) (h2 : zeroA P T = some z) (h3 : buildA P env fs (fldTypes P T) z parts.toList = some out) :
    ∃ v, (Instr.build T (parts.map fun (i, x) => (i, a.eval x))).run P w = .ok v w ∧ VR φ S (.agg out) v := by
  obtain ⟨zv, hz1, hz2, hz3⟩ := zero_run (S := S) (w := w) h2
  obtain ⟨fs', hu, hm⟩ := flds_run (w := w) h1
  obtain ⟨ys, hy1, hy2⟩ := fill_build hev (place := fun i => fs.toArray[i]?) (by simp) parts.toList z out zv.cells (hz2.mono fun _ _ => VP.r1) hz3 h3
  refine ⟨.agg ys, ?_, ⟨ys, rfl, hy2⟩⟩
  have hy1' : Instr.fill (fun x => fs[x]?) zv.cells (parts.toList.map fun p => (p.1, a.eval p.2)) = some ys := by simpa using hy1
  simp [Instr.build, hz1, run_underlying hu, hm, hy1']
end build
end Go.Pv
/- Operations that touch no block of ours. Fourth part: slices that are laid whole, texts and bytes; all together. -/
namespace Go.Pv
open Go

section flat
variable {P : Program} {φ : List Nat} {S : Frz} {w : World}
theorem leaf_vp {a : AV} {v : Value} (h : R1 φ S a v) (ha : leafB a = true) : VP S a v := by
  cases a <;> first | exact h | cases ha
theorem flat_vp {a : AV} {v : Value} (h : VR φ S a v) (ha : flatB a = true) : VP S a v := by
  cases a <;> first
    | exact h
    | cases ha
    | (obtain ⟨vs, rfl, ⟨h1, h2⟩, h3⟩ := vr_agg h
       simp only [flatB, List.all_eq_true] at ha
       exact .agg _ _ h1 (fun i c v hc hv => leaf_vp (h2 i c v hc hv) (ha c (List.mem_of_getElem? hc))) h3)
theorem flat_sto {a : AV} (ha : flatB a = true) : stoA a = true := by
  cases a <;> first | rfl | cases ha

/-- A new block is frozen: what is then known. -/
def addS (S : Frz) (g : Nat) (cs : Array Value) (n : Nat) : Frz := fun b o => if b = g then (if o < n then cs[o]? else none) else S b o
theorem addS_le (hok : Sok S w) {cs : Array Value} {n : Nat} : S.le (addS S w.heap.size cs n) := fun b o v h => by
  have := hok.lt h
  unfold addS
  rw [if_neg (by omega)]
  exact h
theorem addS_more {cs : Array Value} {n g : Nat} : ∀ k o v, addS S g cs n k o = some v → S k o = some v ∨ g ≤ k := fun k o v h => by
  unfold addS at h
  split at h
  · right; omega
  · exact .inl h
theorem alloc_longer (w : World) (o : Obj) : Longer w (w.alloc o) := ⟨rfl, rfl, rfl, by simp, fun k hk => by
  have : (w.alloc o).heap = w.heap.push o := rfl
  rw [this, Array.getElem?_push, if_neg (Nat.ne_of_lt hk)]⟩
theorem addS_ok (hok : Sok S w) {w' : World} (hl : Longer w w') {cs : Array Value} {n : Nat} {T : TypeId} {fr : Nat × Nat} (hh : w'.heap[w.heap.size]? = some (.cells cs T fr)) (h1 : ∀ (i : Nat) (v : Value), i < n → cs[i]? = some v → v.oneCell' = true) :
    Sok (addS S w.heap.size cs n) w' := by
  refine ⟨fun b o v h => ?_, hok.tab_longer (addS_le hok) hl⟩
  unfold addS at h
  split at h
  · rename_i e; subst e
    split at h
    · rename_i ho; exact ⟨(cell_heap hh).trans h, h1 o v ho h⟩
    · cases h
  · have hlt := hok.lt h
    obtain ⟨h2, h3⟩ := hok b o v h
    exact ⟨(cell_same (hl.heap b hlt) o).trans h2, h3⟩

theorem fill_row {env : Env} {a : Act} (hev : ∀ T x, VR φ S (ev P env T x) (a.eval x)) {sz : Nat} {T : TypeId} {place : Nat → Option (Nat × Nat)} (hp : ∀ i, place i = some (i * sz, sz)) :
    ∀ (l : List (Nat × Operand)) (k : Nat) (out : List AV) (xs : Array Value), buildL P env sz T k l = some out → (k + l.length) * sz ≤ xs.size →
      ∃ (ys : List Value), Instr.fill place xs (l.map fun p => (p.1, a.eval p.2)) = some (xs.toList.take (k * sz) ++ ys ++ xs.toList.drop ((k + l.length) * sz)).toArray ∧ ys.length = l.length * sz ∧ out.length = l.length ∧
        (∀ x ∈ out, x.cells.length = sz) ∧ (∀ (i j : Nat) (x c : AV), out[i]? = some x → x.cells[j]? = some c → ∃ v, ys[i * sz + j]? = some v ∧ VP S c v) ∧ ∀ v ∈ ys, v.oneCell' = true
  | [], k, out, xs, h, hle => by
    simp [buildL] at h; subst h
    exact ⟨[], by simp [Instr.fill], by simp, rfl, by simp, by simp, by simp⟩
  | (i, x) :: l, k, out, xs, h, hle => by
    simp only [buildL] at h
    split at h
    · rename_i hc
      obtain ⟨rfl, hc2, hc3⟩ := hc
      cases hb : buildL P env sz T (i + 1) l with
      | none => simp [hb] at h
      | some out' =>
        simp [hb] at h; subst h
        have hvp := flat_vp (hev T x).canon hc3
        obtain ⟨⟨h3, h4⟩, h5⟩ := hvp.cells (flat_sto hc3)
        have hsz : (a.eval x).cells.size = sz := by rw [← h3]; exact hc2
        simp only [List.length_cons] at hle
        have e1 : (i + (l.length + 1)) * sz = i * sz + sz + l.length * sz := by rw [Nat.add_mul, Nat.add_mul]; omega
        have hxs : i * sz + sz ≤ xs.size := by omega
        obtain ⟨ys, g1, g2, g3, g4, g5, g6⟩ := fill_row hev hp l (i + 1) out' (xs.toList.take (i * sz) ++ (a.eval x).cells.toList ++ xs.toList.drop (i * sz + (a.eval x).cells.toList.length)).toArray hb (by
          have : (i + 1 + l.length) * sz = i * sz + sz + l.length * sz := by rw [Nat.add_mul, Nat.add_mul]; omega
          simp [hsz]; omega)
        have e2 : (i + 1) * sz = i * sz + sz := by rw [Nat.add_mul]; omega
        have e3 : (i + 1 + l.length) * sz = i * sz + sz + l.length * sz := by rw [Nat.add_mul, Nat.add_mul]; omega
        refine ⟨(a.eval x).cells.toList ++ ys, ?_, by simp [hsz, g2, Nat.add_mul]; omega, by simp [g3], ?_, ?_, ?_⟩
        · rw [List.map_cons, fill_cons place xs i (a.eval x) _ (i * sz) sz (hp i) hsz hxs, g1]
          congr 2
          simp only [List.length_cons]
          rw [e1, e2, e3]
          have hlen : (a.eval x).cells.toList.length = sz := by simpa using hsz
          rw [hlen]
          have t1 : (xs.toList.take (i * sz)).length = i * sz := by simp; omega
          apply List.ext_getElem?
          intro q
          simp only [List.append_assoc, List.getElem?_append, List.length_take, List.getElem?_take, List.getElem?_drop, List.length_append, List.length_drop]
          have m1 : min (i * sz) xs.toList.length = i * sz := by simp; omega
          have m2 : min (i * sz + sz) (i * sz + (sz + (xs.toList.length - (i * sz + sz)))) = i * sz + sz := by omega
          simp only [hlen, m1, m2]
          by_cases a1 : q < i * sz
          · simp [a1, show q < i * sz + sz by omega]
          · by_cases a2 : q < i * sz + sz
            · simp [a1, a2, show q - i * sz < sz by omega]
            · have a3 : ¬ (q - i * sz < sz) := by omega
              simp only [a1, a2, a3, if_false]
              have a4 : q - i * sz - sz = q - (i * sz + sz) := by omega
              rw [a4]
              by_cases a5 : q - (i * sz + sz) < ys.length
              · simp [a5]
              · simp only [a5, if_false]
                have b1 : ¬ (i * sz + sz + l.length * sz + (q - (i * sz + sz) - ys.length) < i * sz) := by omega
                have b2 : ¬ (i * sz + sz + l.length * sz + (q - (i * sz + sz) - ys.length) - i * sz < sz) := by omega
                simp only [b1, b2, if_false]
                congr 1
                omega
        · intro y hy
          rcases List.mem_cons.1 hy with rfl | hy
          · exact hc2
          · exact g4 y hy
        · intro p j y c hy hcj
          cases p with
          | zero =>
            simp at hy; subst hy
            have hj : j < sz := by rw [← hc2]; exact (List.getElem?_eq_some_iff.1 hcj).1
            have hj' : j < (a.eval x).cells.size := by omega
            refine ⟨(a.eval x).cells[j], ?_, h4 j c _ hcj (by simp [hj'])⟩
            simp [List.getElem?_append, hj']
          | succ p =>
            obtain ⟨v, hv1, hv2⟩ := g5 p j y c (by simpa using hy) hcj
            refine ⟨v, ?_, hv2⟩
            have hlen : (a.eval x).cells.toList.length = sz := by simpa using hsz
            have e4 : (p + 1) * sz + j = sz + (p * sz + j) := by rw [Nat.add_mul]; omega
            rw [e4, List.getElem?_append_right (by omega), hlen, Nat.add_sub_cancel_left]
            exact hv1
        · intro v hv
          rcases List.mem_append.1 hv with hv | hv
          · obtain ⟨j, hj⟩ := List.getElem?_of_mem hv
            exact h5 j v (by simpa using hj)
          · exact g6 v hv
    · cases h

/-- A new row, all of whose elements are frozen: a slice of our own. -/
theorem row_new {av : AV} {l : List AV} {sz : SlT} {cap : Nat} {w' : World} {cs : Array Value} {fr : Nat × Nat} (o : Ow) (ho : o ≠ .nil) (hav : av = .sl o sz l) (hok : Sok S w) (hfi : ∀ (i k : Nat), φ[i]? = some k → k < w.heap.size)
    (hl : Longer w w') (hh : w'.heap[w.heap.size]? = some (.cells cs sz.e fr)) (hcap : cs.size = cap * sz) (hlc : l.length ≤ cap) (hfr : o = .yes → fr.1 = fr.2 ∨ cs.size ≤ fr.1)
    (hz : ∀ x ∈ l, x.cells.length = sz) (he : ∀ (i j : Nat) (x c : AV), l[i]? = some x → x.cells[j]? = some c → ∃ v, cs[i * sz + j]? = some v ∧ VP S c v)
    (h1 : ∀ (i : Nat) (v : Value), i < l.length * sz → cs[i]? = some v → v.oneCell' = true) :
    ∃ S', S.le S' ∧ (∀ k o v, S' k o = some v → S k o = some v ∨ w.heap.size ≤ k) ∧ Sok S' w' ∧ VR φ S' av (.slice (some ⟨w.heap.size, 0, none⟩) l.length cap) ∧
      ∀ sz' l', av = .sl .yes sz' l' → Own1 φ S' w' sz' l'.length (.slice (some ⟨w.heap.size, 0, none⟩) l.length cap) ∧ ∀ g, blkOf (.slice (some ⟨w.heap.size, 0, none⟩) l.length cap) = some g → w.heap.size ≤ g := by
  subst hav
  have hle := addS_le (S := S) hok (cs := cs) (n := l.length * sz)
  refine ⟨addS S w.heap.size cs (l.length * sz), hle, addS_more, addS_ok hok hl hh h1, ?_, ?_⟩
  · refine (vp_sl o ho hlc hz fun i j x c hx hc => ?_).vr
    obtain ⟨v, hv1, hv2⟩ := he i j x c hx hc
    refine ⟨v, ?_, hv2.mono hle⟩
    have hi : i < l.length := (List.getElem?_eq_some_iff.1 hx).1
    have hj : j < sz := by rw [← hz x (List.mem_of_getElem? hx)]; exact (List.getElem?_eq_some_iff.1 hc).1
    have hlt : i * sz + j < l.length * sz := by
      have h2 : (i + 1) * sz ≤ l.length * sz := Nat.mul_le_mul_right _ hi
      rw [Nat.add_mul] at h2
      omega
    unfold addS
    simp only [Nat.zero_add, if_true]
    rw [if_pos hlt]
    exact hv1
  · intro sz' l' e
    cases e
    refine ⟨⟨rfl, fun hm => ?_, ⟨cs, fr, hh, hcap, (hfr rfl).imp id .inr⟩, fun j hj => ?_⟩, fun g hg => by cases hg; exact Nat.le_refl _⟩
    · obtain ⟨i, hi⟩ := List.getElem?_of_mem hm
      have := hfi i _ hi
      simp at this
    · unfold addS
      rw [if_pos rfl, if_neg (by omega)]

theorem range_zero_size (m : Nat) (zero : Array Value) : ((Array.range m).map fun i => zero[i % zero.size]!).size = m := by simp

theorem op_buildSlice {env : Env} {a : Act} (hok : Sok S w) (hfi : ∀ (i k : Nat), φ[i]? = some k → k < w.heap.size) (hev : ∀ T x, VR φ S (ev P env T x) (a.eval x)) {T e : TypeId} {sz n : Nat} {parts : Array (Nat × Operand)} {out : List AV}
    (hT : P.underlying T = some (.slice e)) (hs : tsz P e = some sz) (hn : parts.size = n) (hn1 : n ≤ 1000) (hs1 : sz ≤ 1000) (hz : (zeroA P e).isSome = true) (hb : buildL P env sz e 0 parts.toList = some out) :
    ∃ v w', (Instr.buildSlice T n (parts.map fun (i, x) => (i, a.eval x))).run P w = .ok v w' ∧ Longer w w' ∧ ∃ S', S.le S' ∧ (∀ k o v, S' k o = some v → S k o = some v ∨ w.heap.size ≤ k) ∧ Sok S' w' ∧ VR φ S' (.sl .yes ⟨sz, e⟩ out) v ∧
      ∀ sz' l', AV.sl .yes ⟨sz, e⟩ out = .sl .yes sz' l' → Own1 φ S' w' sz' l'.length v ∧ ∀ g, blkOf v = some g → w.heap.size ≤ g := by
  obtain ⟨zc, hzc⟩ := Option.isSome_iff_exists.1 hz
  obtain ⟨z, hz1, hz2, hz3⟩ := zero_run (S := S) (w := w) hzc
  have hprod : n * sz ≤ 1000000 := Nat.le_trans (Nat.mul_le_mul hn1 hs1) (by decide)
  have hlim : ¬ (16777216 < n * sz) := by omega
  have hpl : parts.toList.length = n := by simpa using hn
  obtain ⟨ys, g1, g2, g3, g4, g5, g6⟩ := fill_row hev (place := fun i => some (i * sz, sz)) (fun _ => rfl) parts.toList 0 out ((Array.range (n * sz)).map fun i => (if n * sz = 0 then #[] else z.cells)[i % (if n * sz = 0 then #[] else z.cells).size]!) hb (by simp [hpl])
  have hys : ys.length = n * sz := by rw [g2, hpl]
  have e1 : (((Array.range (n * sz)).map fun i => (if n * sz = 0 then #[] else z.cells)[i % (if n * sz = 0 then #[] else z.cells).size]!).toList.drop (n * sz)) = [] := by
    rw [List.drop_eq_nil_iff]; simp
  have hol : out.length = n := by rw [g3, hpl]
  simp only [Nat.zero_mul, List.take_zero, List.nil_append, Nat.zero_add, hpl] at g1
  rw [e1, List.append_nil] at g1
  refine ⟨.slice (some ⟨w.heap.size, 0, none⟩) n n, w.alloc (.cells ys.toArray e), ?_, alloc_longer _ _, ?_⟩
  · have hw : ({ w with heap := w.heap.push (.cells ys.toArray e) } : World) = w.alloc (.cells ys.toArray e) := rfl
    have g2' : Instr.fill (fun i => some (i * sz, sz)) ((Array.range (n * sz)).map fun i => (if n * sz = 0 then #[] else z.cells)[i % (if n * sz = 0 then #[] else z.cells).size]!) ((parts.map fun (i, x) => (i, a.eval x)).toList) = some ys.toArray := by
      rw [Array.toList_map]; exact g1
    unfold Instr.buildSlice
    by_cases h0 : n * sz = 0
    · simp only [h0, if_true] at g2'
      simp only [Sem.run_bind, run_underlying hT, run_tsz hs, Result.andThen_ok, h0, Nat.not_lt_zero, if_false, if_true, pure_bind, g2', newRow, run_newObj, Sem.run_pure, hw, Sem.run_map]
    · simp only [h0, if_false] at g2'
      simp only [Sem.run_bind, run_underlying hT, run_tsz hs, Result.andThen_ok, h0, hlim, if_false, pure_bind, g2', newRow, run_newObj, Sem.run_pure, hw, Sem.run_map, hz1]
  · rw [← hol]
    refine row_new .yes (by simp) rfl hok hfi (alloc_longer _ _) (fr := (0, 0)) (cs := ys.toArray) ?_ (by simp [hys, hol]) (Nat.le_refl _) (by simp) g4 (fun i j x c hx hc => by simpa using g5 i j x c hx hc) (fun i v _ hv => g6 v (List.mem_of_getElem? (by simpa using hv)))
    show (w.heap.push _)[w.heap.size]? = _
    rw [Array.getElem?_push, if_pos rfl]

theorem op_toBytes (hok : Sok S w) (hfi : ∀ (i k : Nat), φ[i]? = some k → k < w.heap.size) {e : TypeId} {s : List UInt8} (hs : s.length ≤ lenLim) :
    ∃ v w', (Conv.stringToBytes e ⟨s.toArray⟩).run P w = .ok v w' ∧ Longer w w' ∧ ∃ S', S.le S' ∧ (∀ k o v, S' k o = some v → S k o = some v ∨ w.heap.size ≤ k) ∧ Sok S' w' ∧ VR φ S' (.sl .yes ⟨1, e⟩ (s.map fun c => .int .u8 c.toNat)) v ∧
      ∀ sz' l', AV.sl .yes ⟨1, e⟩ (s.map fun c => .int .u8 c.toNat) = .sl .yes sz' l' → Own1 φ S' w' sz' l'.length v ∧ ∀ g, blkOf v = some g → w.heap.size ≤ g := by
  have hsz : (⟨s.toArray⟩ : ByteArray).size = s.length := by simp [ByteArray.size]
  let cap := (Question.appendCap s.length 0 e).cut (w.tape w.drawn (.appendCap s.length 0 e))
  have hcap : s.length ≤ cap := by simp only [cap, Question.cut]; omega
  let cs : Array Value := s.toArray.map (fun b => Value.int .u8 b.toNat) ++ Array.replicate (cap - s.length) (.int .u8 0)
  have hcs : cs.size = cap := by simp [cs]; omega
  let w1 : World := { w with heap := w.heap.push (.cells cs e (cap, cap + 1)), drawn := w.drawn + 1 }
  have hrun : (Conv.stringToBytes e ⟨s.toArray⟩).run P w = .ok (.slice (some ⟨w.heap.size, 0, none⟩) s.length cap) w1 := by
    simp only [Conv.stringToBytes, Sem.run_bind, run_choose, hsz, Question.forced, Bool.false_eq_true, if_false, Result.andThen_ok, newRow, run_newObj, Sem.run_pure, markStringish, run_shape, Sem.run_map, pure_bind]
    have h1 : (({ w with heap := w.heap.push (.cells cs e (0, 0)), drawn := w.drawn + 1 } : World).shape? w.heap.size) = some (e, cap) := by
      simp [World.shape?, hcs]
    show ((Sem.run P (match World.shape? { w with heap := w.heap.push (.cells cs e (0, 0)), drawn := w.drawn + 1 } w.heap.size with
      | some (_, n) => freeze { block := w.heap.size, off := n } 1
      | _ => pure ()) { w with heap := w.heap.push (.cells cs e (0, 0)), drawn := w.drawn + 1 }).andThen fun _ w' => Result.ok (Value.slice (some ⟨w.heap.size, 0, none⟩) s.length cap) w') = _
    rw [h1]
    simp only [run_freeze, Result.andThen_ok]
    congr 1
    simp only [World.freeze, Nat.one_ne_zero, if_false, w1]
    congr 1
    apply Array.ext_getElem?
    intro i
    rw [Array.getElem?_modify, Array.getElem?_push, Array.getElem?_push]
    by_cases hi : i = w.heap.size
    · subst hi
      simp
    · simp [hi, Ne.symm hi]
  refine ⟨_, w1, hrun, ⟨rfl, rfl, rfl, by simp [w1], fun k hk => ?_⟩, ?_⟩
  · show (w.heap.push _)[k]? = _
    rw [Array.getElem?_push, if_neg (Nat.ne_of_lt hk)]
  · have hl : (s.map fun c => AV.int .u8 c.toNat).length = s.length := by simp
    have hget : ∀ i, i < s.length → cs[i]? = some (.int .u8 (s.getD i 0).toNat) := fun i hi => by
      simp only [cs]
      rw [Array.getElem?_append_left (by simpa using hi)]
      simp [hi, List.getD]
    rw [← hl]
    refine row_new .yes (by simp) rfl hok hfi ⟨rfl, rfl, rfl, by simp [w1], fun k hk => ?_⟩ (fr := (cap, cap + 1)) (cs := cs) ?_ (by simp [hcs]) (by simpa using hcap) (fun _ => .inr (by rw [hcs]; exact Nat.le_refl _)) (by simp [AV.cells]) (fun i j x c hx hc => ?_) (fun i v hi hv => ?_)
    · show (w.heap.push _)[k]? = _
      rw [Array.getElem?_push, if_neg (Nat.ne_of_lt hk)]
    · show (w.heap.push _)[w.heap.size]? = _
      rw [Array.getElem?_push, if_pos rfl]
    · simp only [List.getElem?_map, Option.map_eq_some_iff] at hx
      obtain ⟨b, hb, rfl⟩ := hx
      have hi : i < s.length := (List.getElem?_eq_some_iff.1 hb).1
      simp only [AV.cells] at hc
      cases j with
      | zero =>
        simp at hc; subst hc
        refine ⟨.int .u8 b.toNat, ?_, .int _ _⟩
        rw [Nat.mul_one, Nat.add_zero, hget i hi]
        simp [List.getD, hb]
      | succ j => simp at hc
    · rw [hl, Nat.mul_one] at hi
      rw [hget i hi] at hv
      cases hv
      rfl

theorem bytesA_ints : ∀ (l : List AV) (bs : List UInt8), bytesA l = some bs → ∃ ns : List Int, l = ns.map (AV.int .u8) ∧ bs = ns.map fun n => UInt8.ofNat n.toNat
  | [], bs, h => by simp [bytesA] at h; subst h; exact ⟨[], rfl, rfl⟩
  | a :: l, bs, h => by
    unfold bytesA at h
    split at h
    · rename_i e; cases e
    · rename_i n l' e
      cases e
      cases hb : bytesA l with
      | none => simp [hb] at h
      | some t =>
        simp [hb] at h
        subst h
        obtain ⟨ns, h1, h2⟩ := bytesA_ints l t hb
        exact ⟨n :: ns, by simp [h1], by simp [h2]⟩
    · cases h
theorem foldl_push : ∀ (ns : List Int) (acc : List UInt8), ns.foldl (fun (r : ByteArray) n => r.push (UInt8.ofNat n.toNat)) ⟨acc.toArray⟩ = ⟨(acc ++ ns.map fun n => UInt8.ofNat n.toNat).toArray⟩
  | [], acc => by simp
  | n :: ns, acc => by
    have e : (⟨acc.toArray⟩ : ByteArray).push (UInt8.ofNat n.toNat) = ⟨(acc ++ [UInt8.ofNat n.toNat]).toArray⟩ := by
      apply ByteArray.ext
      simp [ByteArray.push]
    rw [List.foldl_cons, e, foldl_push ns]
    simp
end flat
end Go.Pv
/- Operations that touch no block of ours: the theorem. -/
namespace Go.Pv
open Go

section
variable {P : Program} {φ : List Nat} {S : Frz} {w : World}

def YieldsV (P : Program) (φ : List Nat) (S : Frz) (w : World) (s : Sem Value) (av : AV) : Prop :=
  ∃ v w', s.run P w = .ok v w' ∧ Longer w w' ∧ ∃ S', S.le S' ∧ (∀ k o v, S' k o = some v → S k o = some v ∨ w.heap.size ≤ k) ∧ Sok S' w' ∧ VR φ S' av v ∧
    ∀ sz l, av = .sl .yes sz l → Own1 φ S' w' sz l.length v ∧ ∀ g, blkOf v = some g → w.heap.size ≤ g
theorem YieldsV.same {s : Sem Value} {av : AV} {v : Value} (hs : s.run P w = .ok v w) (hok : Sok S w) (hv : VR φ S av v) (hno : ∀ sz l, av ≠ .sl .yes sz l) : YieldsV P φ S w s av :=
  ⟨v, w, hs, Longer.refl w, S, fun _ _ _ h => h, fun _ _ _ h => .inl h, hok, hv, fun sz l e => absurd e (hno sz l)⟩
theorem YieldsV.next {s : Sem Value} {av : AV} (h : YieldsV P φ S w s av) : Yields P φ S w (do pure (.value (← s))) av := by
  obtain ⟨v, w', h1, h2, S', h3⟩ := h
  exact ⟨v, w', S', by simp [h1], h2, h3⟩

theorem convA_run (hok : Sok S w) (hfi : ∀ (i k : Nat), φ[i]? = some k → k < w.heap.size) {src dst : TypeId} {x av : AV} {v : Value} (hv : VR φ S x v) (h : convA P src dst x = some av) : YieldsV P φ S w (convert src dst v) av := by
  unfold convA at h
  split at h
  · rename_i k0 k k1 n hs hd
    cases h
    cases vr_int hv
    exact .same (v := .int k (k.wrap n)) (by simp [convert, run_underlying hs, run_underlying hd, Conv.intToInt]) hok (VP.int _ _).vr (by simp)
  · rename_i s hs hd
    cases h
    cases vr_str hv
    exact .same (v := .string ⟨s.toArray⟩) (by simp [convert, run_underlying hs, run_underlying hd]) hok (VP.str _).vr (by simp)
  · rename_i e s hs hd
    split at h
    · rename_i he
      split at h
      · rename_i hl
        cases h
        cases vr_str hv
        obtain ⟨v, w', h1, h2⟩ := op_toBytes (P := P) (φ := φ) hok hfi (e := e) hl
        exact ⟨v, w', by simp [convert, run_underlying hs, run_underlying hd, run_underlying he, h1], h2⟩
      · cases h
    · cases h
  · rename_i e o et l hs hd
    split at h
    · rename_i he
      cases hb : bytesA l with
      | none => simp [hb] at h
      | some bs =>
        simp [hb] at h
        subst h
        obtain ⟨ns, rfl, rfl⟩ := bytesA_ints l bs hb
        obtain ⟨A, cap, rfl, hc, hn, hz, hr⟩ := vr_sl hv
        refine .same (v := .string ⟨(ns.map fun n => UInt8.ofNat n.toNat).toArray⟩) ?_ hok (VP.str _).vr (by simp)
        rw [run_convert_bytes_string w src dst e _ _ cap hs he hd]
        cases hns : ns with
        | nil =>
          subst hns
          have e00 : (ByteArray.empty : ByteArray) = ⟨#[]⟩ := rfl
          cases A with
          | none => simp [Conv.bytesToString]; rfl
          | some a =>
            have := run_bytesToString (P := P) w a 0 cap [] (by simp [loadCells, loadCellsFrom])
            rw [e00] at this
            simpa using this
        | cons n0 ns0 =>
          rw [← hns]
          obtain ⟨blk, off, rfl, hr2⟩ := hr (by simp [hns])
          have hl := run_loadCells_list (P := P) w ⟨blk, off, none⟩ (ns.map (Value.int .u8)) (fun j v hj => by
            simp only [List.getElem?_map, Option.map_eq_some_iff] at hj
            obtain ⟨n, hn, rfl⟩ := hj
            obtain ⟨x, hx, hy⟩ := hr2 j 0 (.int .u8 n) (.int .u8 n) (by simp [hn]) rfl
            cases hy
            rw [add_plain]
            simpa using (hok _ _ _ hx).1)
          have := run_bytesToString (P := P) w ⟨blk, off, none⟩ (ns.map (AV.int .u8)).length cap ns (by simpa using hl)
          rw [this]
          have e := foldl_push ns []
          simp only [List.nil_append] at e
          have e0 : (⟨([] : List UInt8).toArray⟩ : ByteArray) = ByteArray.empty := rfl
          rw [e0] at e
          rw [e]
    · cases h
  · cases h

/-- A pointer, seen without its type, and back. -/
theorem convP_run {σ : List Blk} (hok : Sok S w) {src dst : TypeId} {b off : Nat} {av : AV} {v : Value} (hblk : ∀ (i k : Nat) (b : Blk), σ[i]? = some b → φ[i]? = some k → BlkRel φ S w k b) (hv : VR φ S (.ptr b off) v) (h : convP P (P.underlying src) (P.underlying dst) σ[b]? b off = some av) : YieldsV P φ S w (convert src dst v) av := by
  obtain ⟨k, hk, rfl⟩ := vr_ptr hv
  unfold convP at h
  split at h
  · rename_i t T l hs hd hb
    split at h
    · rename_i m hm
      split at h
      · rename_i hlt
        cases h
        obtain ⟨cs, h1, ⟨h2, _⟩, _⟩ := hblk b k _ hb hk
        have hsh : w.shape? k = some (T, cs.size) := by simp [World.shape?, h1]
        have hge : ¬ cs.size ≤ off := by omega
        refine YieldsV.same (v := .pointer (some ⟨k, off, none⟩)) ?_ hok ⟨k, hk, rfl⟩ (by simp)
        simp [convert, Conv.unsafePointer, Conv.seenAt, viewAt, cellsIn, run_underlying hs, run_underlying hd, run_tsz hm, hsh, hge, Result.andThen]
      · cases h
    · cases h
  · rename_i t T l hs hd hb
    split at h
    · rename_i m hm
      split at h
      · rename_i hlies
        cases h
        obtain ⟨cs, h1, ⟨h2, _⟩, _⟩ := hblk b k _ hb hk
        have hsh : w.shape? k = some (T, cs.size) := by simp [World.shape?, h1]
        refine YieldsV.same (v := .pointer (some ⟨k, off, none⟩)) ?_ hok ⟨k, hk, rfl⟩ (by simp)
        rw [h2] at hlies
        simp [convert, Conv.unsafePointer, Conv.seenAt, viewAt, cellsIn, variablesAt, run_underlying hs, run_underlying hd, run_tsz hm, hsh, hlies, Result.andThen]
      · cases h
    · cases h
  · cases h
theorem convX_run {σ : List Blk} (hok : Sok S w) (hfi : ∀ (i k : Nat), φ[i]? = some k → k < w.heap.size) {src dst : TypeId} {x av : AV} {v : Value} (hblk : ∀ (i k : Nat) (b : Blk), σ[i]? = some b → φ[i]? = some k → BlkRel φ S w k b) (hv : VR φ S x v) (h : convX P σ src dst x = some av) : YieldsV P φ S w (convert src dst v) av := by
  unfold convX at h
  split at h
  · exact convP_run hok hblk hv h
  · exact convA_run hok hfi hv h

theorem cap_r0 {x : AV} {v : Value} (h : VR φ S x v) (hx : capB x = true) : R0 φ S x v := by
  cases x <;> first | exact h | cases hx

theorem opt_rel {env : Env} {a : Act} (hev : ∀ T x, VR φ S (ev P env T x) (a.eval x)) (o : Option Operand) :
    (∀ x, o.map (ev P env 0) = some x → ∃ v, o.map a.eval = some v ∧ VR φ S x v) ∧ (o.map (ev P env 0) = none → o.map a.eval = none) := by
  cases o with
  | none => simp
  | some x => exact ⟨fun y hy => by simp at hy; subst hy; exact ⟨_, rfl, hev 0 x⟩, fun h => by simp at h⟩

theorem blt_sound {env : Env} {a : Act} (hok : Sok S w) (hev : ∀ T x, VR φ S (ev P env T x) (a.eval x)) {c : Call} {b : Builtin} {T : TypeId} {av : AV} (hb : c.callee = .builtin b) (h : bltA P env b c.args.toList c.argTypes.toList = some av) :
    Yields P φ S w (do let d ← resolve a.eval c T; invoke d.target d.args) av := by
  have hr : resolve a.eval c T = pure { target := .builtin b c.argTypes T (c.args.map fun | .const _ => true | _ => false), args := c.args.map a.eval } := by
    unfold resolve; rw [hb]; rfl
  rw [hr]
  simp only [pure_bind, invoke]
  unfold bltA at h
  split at h
  · rename_i x T' hxs hts
    have e1 : c.args = #[x] := by rw [← Array.toList_inj]; exact hxs
    have e2 : c.argTypes = #[T'] := by rw [← Array.toList_inj]; exact hts
    rw [e1, e2]
    have hx := hev T' x
    split at h <;> cases h
    · rename_i s hu he
      rw [he] at hx
      have hs : (⟨s.toArray⟩ : ByteArray).size = s.length := by simp [ByteArray.size]
      exact Yields.same (v := .int .i64 s.length) (by simp [builtin, Builtin.len_, run_underlying hu, vr_str hx, goInt, hs]) hok (VP.int _ _).vr (by simp)
    · rename_i e o sz l hu he
      rw [he] at hx
      obtain ⟨A, cap, hv, _⟩ := vr_sl hx
      exact Yields.same (v := .int .i64 l.length) (by simp [builtin, Builtin.len_, run_underlying hu, hv, goInt]) hok (VP.int _ _).vr (by simp)
  · rename_i x y hxs
    have e1 : c.args = #[x, y] := by rw [← Array.toList_inj]; exact hxs
    rw [e1]
    have hx := hev 0 x
    have hy := hev 0 y
    split at h
    · rename_i k n k' m he1 he2
      rw [he1] at hx; rw [he2] at hy
      split at h <;> cases h
      exact Yields.same (v := .int k (if m < n then m else n)) (by simp [builtin, vr_int hx, vr_int hy, run_min_int2]) hok (VP.int _ _).vr (by simp)
    · cases h
  · rename_i x y hxs
    have e1 : c.args = #[x, y] := by rw [← Array.toList_inj]; exact hxs
    rw [e1]
    have hx := hev 0 x
    have hy := hev 0 y
    split at h
    · rename_i k n k' m he1 he2
      rw [he1] at hx; rw [he2] at hy
      split at h <;> cases h
      exact Yields.same (v := .int k (if m > n then m else n)) (by simp [builtin, vr_int hx, vr_int hy, run_max_int2]) hok (VP.int _ _).vr (by simp)
    · cases h
  · cases h

/-- **The machine does what 'opVal' tells.** -/
theorem opVal_sound {env : Env} {a : Act} {σ : List Blk} {o : Oper} {av : AV} (hok : Sok S w) (hfi : ∀ (i k : Nat), φ[i]? = some k → k < w.heap.size)
    (hblk : ∀ (i k : Nat) (b : Blk), σ[i]? = some b → φ[i]? = some k → BlkRel φ S w k b) (hev : ∀ T x, VR φ S (ev P env T x) (a.eval x)) (h : opVal P env σ o = some av) : Yields P φ S w (execOp a.eval o) av := by
  unfold opVal at h
  split at h
  · rename_i x hop
    cases h
    simp only [execOp, hop]
    exact Yields.same (Sem.run_pure ..) hok (hev _ x).weak (weak_no _)
  · rename_i c x y hop
    split at h
    · rename_i t ht
      cases h
      have hc := hev 0 c
      rw [ht] at hc
      have hc' := vr_bool hc
      simp only [execOp, hop]
      cases t
      · exact Yields.same (by simp [asBool, hc']) hok (hev o.type y).weak (weak_no _)
      · exact Yields.same (by simp [asBool, hc']) hok (hev o.type x).weak (weak_no _)
    · cases h
  · rename_i T x hop
    obtain ⟨v, h1, h2, h3⟩ := op_load (P := P) (w := w) hok hblk (hev 0 x) h
    simp only [execOp, hop]
    exact (YieldsV.same h1 hok h2 h3).next
  · rename_i x hop
    simp only [execOp, hop]
    have hx := hev 0 x
    split at h <;> cases h
    · rename_i b off he
      rw [he] at hx
      obtain ⟨k, hk, hv⟩ := vr_ptr hx
      rw [hv]
      exact Yields.same (Sem.run_pure ..) hok ⟨k, hk, rfl⟩ (by simp)
    · rename_i cs he
      rw [he] at hx
      obtain ⟨k, off, hv, hr⟩ := vr_ref hx
      rw [hv]
      exact Yields.same (Sem.run_pure ..) hok (vp_ref hr).vr (by simp)
    · rename_i f fa fc he
      rw [he] at hx
      obtain ⟨f', c', hv, hr⟩ := vr_fn hx
      rw [hv]
      exact Yields.same (Sem.run_pure ..) hok ⟨f', c', rfl, hr⟩ (by simp)
  · rename_i op T x y Ty hop
    obtain ⟨z, h1, h2, h3⟩ := binX_run (P := P) (w := w) (hev 0 x) (hev 0 y) x y h
    simp only [execOp, hop]
    exact (YieldsV.same h1 hok h2.vr h3).next
  · rename_i op T x hop
    obtain ⟨z, h1, h2, h3⟩ := unA_run (P := P) (w := w) (hev 0 x) h
    simp only [execOp, hop]
    exact (YieldsV.same h1 hok h2.vr h3).next
  · rename_i src dst x hop
    simp only [execOp, hop]
    exact (convX_run hok hfi hblk (hev src x) h).next
  · rename_i T x hop
    simp only [execOp, hop]
    split at h
    · cases h
    · rename_i d hd hu
      have hc : P.concrete T = true := by unfold Program.concrete; rw [hu]; cases d <;> first | rfl | exact absurd rfl (hd _)
      have hx := hev T x
      split at h <;> cases h
      · rename_i k n he; rw [he] at hx; rw [vr_int hx]
        exact (YieldsV.same (run_makeInterface w T _ hc) hok (VP.iface _ _ _ (.int _ _)).vr (by simp)).next
      · rename_i b he; rw [he] at hx; rw [vr_bool hx]
        exact (YieldsV.same (run_makeInterface w T _ hc) hok (VP.iface _ _ _ (.bool _)).vr (by simp)).next
      · rename_i s he; rw [he] at hx; rw [vr_str hx]
        exact (YieldsV.same (run_makeInterface w T _ hc) hok (VP.iface _ _ _ (.str _)).vr (by simp)).next
    · cases h
  · rename_i f first cap hop
    split at h
    · rename_i hc
      cases h
      have key : ∀ (l : Array Operand), (l.toList.map (ev P env 0)).all capB = true → RL (R0 φ S) (l.toList.map (ev P env 0)) (l.map a.eval) := fun l hl => by
        refine ⟨by simp, fun i c v hc hv => ?_⟩
        have hb := List.all_eq_true.1 hl c (List.mem_of_getElem? hc)
        simp only [List.getElem?_map, Option.map_eq_some_iff, Array.getElem?_toList] at hc
        obtain ⟨x, hx, rfl⟩ := hc
        simp only [Array.getElem?_map, hx, Option.map_some, Option.some.injEq] at hv
        subst hv
        exact cap_r0 (hev 0 x) hb
      simp only [execOp, hop, Instr.makeFunc]
      exact Yields.same (Sem.run_pure ..) hok (v := .func (.func f) (first.map a.eval) (cap.map a.eval)) ⟨_, _, rfl, key first hc.1, key cap hc.2⟩ (by simp)
    · cases h
  · rename_i x i hop
    simp only [execOp, hop]
    have hx := hev 0 x
    split at h
    · rename_i vs he
      rw [he] at hx
      obtain ⟨ws, hv, h1, h2⟩ := vr_tup hx
      cases hi : vs[i]? with
      | none => simp [hi] at h
      | some c =>
        simp [hi] at h
        subst h
        have hlt : i < ws.size := by rw [← h1]; exact (List.getElem?_eq_some_iff.1 hi).1
        have hw : ws[i]? = some ws[i] := by simp [hlt]
        refine (YieldsV.same (v := ws[i]) (by simp [hv, Instr.extract, hw]) hok (h2 i c _ hi hw).canon1.vr ?_).next
        intro sz l e
        unfold canon1 canon0 at e
        split at e
        · cases e
        · split at e <;> simp_all
    · cases h
  · rename_i T x i hop
    obtain ⟨v, h1, h2, h3⟩ := op_fieldAddr (P := P) (w := w) (hev 0 x) h
    simp only [execOp, hop]
    exact (YieldsV.same h1 hok h2 h3).next
  · rename_i T x i hop
    obtain ⟨v, h1, h2, h3⟩ := op_field (P := P) (w := w) (hev 0 x) h
    simp only [execOp, hop]
    exact (YieldsV.same h1 hok h2 h3).next
  · rename_i T x i hop
    obtain ⟨v, h1, h2, h3⟩ := op_indexAddr (P := P) (w := w) (hev 0 x) (hev 0 i) h
    simp only [execOp, hop]
    exact (YieldsV.same h1 hok h2 h3).next
  · rename_i T x i hop
    split at h
    · rename_i hT
      obtain ⟨v, h1, h2, h3⟩ := op_index (P := P) (w := w) hT (hev 0 x) (hev 0 i) h
      simp only [execOp, hop]
      exact (YieldsV.same h1 hok h2 h3).next
    · cases h
  · rename_i T x lo hi hop
    simp only [execOp, hop]
    have hx := hev T x
    split at h
    · rename_i s he
      rw [he] at hx
      split at h
      case h_2 => cases h
      rename_i hT
      cases hc : cutB s.length (lo.map (ev P env 0)) (hi.map (ev P env 0)) with
      | none => simp [hc] at h
      | some ab =>
        simp [hc] at h
        subst h
        have := op_slice_str (P := P) (w := w) hT hx (opt_rel hev lo).1 (opt_rel hev lo).2 (opt_rel hev hi).1 (opt_rel hev hi).2 hc
        exact (YieldsV.same this hok (VP.str _).vr (by simp)).next
    · rename_i o sz l he
      rw [he] at hx
      split at h
      · rename_i hs
        cases hc : cutB l.length (lo.map (ev P env 0)) (hi.map (ev P env 0)) with
        | none => simp [hc] at h
        | some ab =>
          simp [hc] at h
          subst h
          obtain ⟨v, h1, h2⟩ := op_slice_sl (P := P) (w := w) hs hx (opt_rel hev lo).1 (opt_rel hev lo).2 (opt_rel hev hi).1 (opt_rel hev hi).2 hc
          exact (YieldsV.same h1 hok h2.vr (by simp)).next
      · cases h
    · cases h
  · rename_i T parts hop
    split at h
    · rename_i fs z h1 h2
      cases hb : buildA P env fs (fldTypes P T) z parts.toList with
      | none => simp [hb] at h
      | some out =>
        simp [hb] at h
        subst h
        obtain ⟨v, h3, h4⟩ := op_build (w := w) hev h1 h2 hb
        simp only [execOp, hop]
        exact (YieldsV.same h3 hok h4 (by simp)).next
    · cases h
  · rename_i T n parts hop
    split at h
    · rename_i e hT
      split at h
      · rename_i sz hs
        split at h
        · rename_i hc
          cases hb : buildL P env sz e 0 parts.toList with
          | none => simp [hb] at h
          | some out =>
            simp [hb] at h
            subst h
            obtain ⟨h1, h2, h3, h4⟩ := hc
            simp only [execOp, hop]
            exact YieldsV.next (op_buildSlice (w := w) hok hfi hev hT hs h1 h2 h3 h4 hb)
        · cases h
      · cases h
    · cases h
  · rename_i c hop
    split at h
    · rename_i b hb
      simp only [execOp, hop]
      exact blt_sound hok hev hb h
    · cases h
  · cases h
end
end Go.Pv
/- Blocks of our own: a new one; one that is written. -/
namespace Go.Pv
open Go

section
variable {P : Program} {n : Nat} {w0 : World} {S0 : Frz} {T0 : Nat → Prop} {φ : List Nat} {S : Frz} {env : Env} {σ : List Blk} {tm : Array Value} {w : World}

theorem fiLe_append (φ ψ : List Nat) : FiLe φ (φ ++ ψ) := fun b k h => by
  rw [List.getElem?_append_left (List.getElem?_eq_some_iff.1 h).1]; exact h

theorem BlkRel.mono {φ' : List Nat} {S' : Frz} {w' : World} {k : Nat} {b : Blk} (h : BlkRel φ S w k b) (hS : S.le S') (hf : FiLe φ φ') (hw : w'.heap[k]? = w.heap[k]?) : BlkRel φ' S' w' k b := by
  cases b with
  | cells T l =>
    obtain ⟨cs, h1, h2, h3⟩ := h
    exact ⟨cs, hw.trans h1, h2.mono fun _ _ => R1.mono hS hf, h3⟩
  | siter s pos => exact hw.trans h

theorem cellAt_append_old {σ' : List Blk} {i off : Nat} (h : i < σ.length) : cellAt (σ ++ σ') i off = cellAt σ i off := by
  unfold cellAt cellsAt; rw [List.getElem?_append_left h]

/-- A new block. -/
theorem Rel.addBlk (h : Rel n w0 S0 T0 φ S env σ tm w) {o : Obj} {b : Blk} (hb : BlkRel (φ ++ [w.heap.size]) S (w.alloc o) w.heap.size b)
    (hn : ∀ T l, b = .cells T l → ∀ off sz l', l[off]? = some (.sl .yes sz l') → ∀ v, (w.alloc o).cell? ⟨w.heap.size, off, none⟩ = some v → ∃ m, v = .slice none m 0) :
    Rel n w0 S0 T0 (φ ++ [w.heap.size]) S env (σ ++ [b]) tm (w.alloc o) := by
  have hl := alloc_longer w o
  have hg := h.grow hl (fun _ _ _ h => h) (fun _ _ _ h => .inl h) ⟨fun b o v hv => ⟨(cell_same (hl.heap b (h.sok.lt hv)) o).trans (h.sok b o v hv).1, (h.sok b o v hv).2⟩, h.sok.tab_longer (fun _ _ _ h => h) hl⟩
  have hfl := fiLe_append φ [w.heap.size]
  have hlen := h.len
  have hnotin : w.heap.size ∉ φ := fun hm => by
    obtain ⟨i, hi⟩ := List.getElem?_of_mem hm
    exact Nat.lt_irrefl _ (h.fi_lt hi)
  have hA : ∀ hd sz l, haA env (σ ++ [b]) hd = .sl .yes sz l → (haA env σ hd = .sl .yes sz l ∧ haV (φ ++ [w.heap.size]) tm (w.alloc o) hd = haV φ tm (w.alloc o) hd) ∨ ∃ off, hd = .cell σ.length off ∧ (haV (φ ++ [w.heap.size]) tm (w.alloc o) hd = undef ∨ ∃ m, haV (φ ++ [w.heap.size]) tm (w.alloc o) hd = .slice none m 0) := fun hd sz l ha => by
    cases hd with
    | tmp t => exact .inl ⟨ha, rfl⟩
    | cell i off =>
      by_cases hi : i < σ.length
      · left
        simp only [haA] at ha ⊢
        rw [cellAt_append_old hi] at ha
        refine ⟨ha, ?_⟩
        simp only [haV]
        rw [List.getElem?_append_left (by omega)]
      · right
        have hs : cellAt (σ ++ [b]) i off = some (.sl .yes sz l) := by
          simp only [haA] at ha
          cases hc : cellAt (σ ++ [b]) i off with
          | none => simp [hc] at ha
          | some x => simp [hc] at ha; rw [ha]
        obtain ⟨T1, cs, h1, h2⟩ := cellAt_some hs
        rw [List.getElem?_append_right (by omega)] at h1
        have hi0 : i - σ.length = 0 := by
          have := (List.getElem?_eq_some_iff.1 h1).1
          simp at this; omega
        rw [hi0] at h1
        simp at h1
        have hie : i = σ.length := by omega
        subst hie
        refine ⟨off, rfl, ?_⟩
        simp only [haV]
        rw [List.getElem?_append_right (by omega), show σ.length - φ.length = 0 by omega]
        simp only [List.getElem?_cons_zero]
        cases hc : (w.alloc o).cell? ⟨w.heap.size, off, none⟩ with
        | none => exact .inl rfl
        | some v => exact .inr (hn T1 cs h1 off sz l h2 v hc)
  refine ⟨hg.sok, hg.evo, h.size, fun t => (h.vals t).mono (fun _ _ _ h => h) hfl, ?_, by simp [hlen], ?_, ?_, ?_, ?_, ?_, ?_⟩
  · rw [List.nodup_append]
    exact ⟨h.nodup, by simp, fun a ha b hb e => by simp at hb; subst hb; subst e; exact hnotin ha⟩
  · intro i k c hc hk
    by_cases hi : i < σ.length
    · rw [List.getElem?_append_left hi] at hc
      rw [List.getElem?_append_left (by omega)] at hk
      exact (hg.blk i k c hc hk).mono (fun _ _ _ h => h) hfl rfl
    · rw [List.getElem?_append_right (by omega)] at hc
      rw [List.getElem?_append_right (by omega)] at hk
      rw [hlen] at hk
      cases hj : i - σ.length with
      | zero => simp [hj] at hc hk; subst hc; subst hk; exact hb
      | succ j => simp [hj] at hc
  · intro i k hk o'
    by_cases hi : i < φ.length
    · rw [List.getElem?_append_left hi] at hk; exact h.free i k hk o'
    · rw [List.getElem?_append_right (by omega)] at hk
      cases hj : i - φ.length with
      | zero =>
        simp [hj] at hk; subst hk
        cases hs : S w.heap.size o' with
        | none => rfl
        | some v => exact absurd (h.sok.lt hs) (Nat.lt_irrefl _)
      | succ j => simp [hj] at hk
  · intro i k hk
    by_cases hi : i < φ.length
    · rw [List.getElem?_append_left hi] at hk; exact h.inT i k hk
    · rw [List.getElem?_append_right (by omega)] at hk
      cases hj : i - φ.length with
      | zero => simp [hj] at hk; subst hk; exact .inr h.evo.size
      | succ j => simp [hj] at hk
  · intro hd sz l ha
    rcases hA hd sz l ha with ⟨h1, h2⟩ | ⟨off, rfl, h2 | ⟨m, h2⟩⟩
    · rw [h2]
      have ho := hg.own hd sz l h1
      unfold Own1 at ho ⊢
      split
      · rename_i e; rw [e] at ho; exact ho
      · rename_i a x cap e
        rw [e] at ho
        obtain ⟨g1, g2, g3, g4⟩ := ho
        refine ⟨g1, fun hm => ?_, g3, g4⟩
        rcases List.mem_append.1 hm with hm | hm
        · exact g2 hm
        · simp at hm
          have hold : blkOf (haV φ tm w hd) = some a.block := by
            have hv : haV φ tm (w.alloc o) hd = haV φ tm w hd := haV_same hd fun i off k _ hk => hl.heap k (h.fi_lt hk)
            rw [← hv, e]; rfl
          exact absurd ((h.own hd sz l h1).lt hold) (by omega)
      · trivial
    · rw [h2]; trivial
    · rw [h2]; rfl
  · intro hd sz l g ha hg'
    rcases hA hd sz l ha with ⟨h1, h2⟩ | ⟨off, rfl, h2 | ⟨m, h2⟩⟩
    · rw [h2] at hg'; exact hg.ownT hd sz l g h1 hg'
    · rw [h2] at hg'; cases hg'
    · rw [h2] at hg'; cases hg'
  · intro hd hd' sz l sz' l' g hne ha ha' hg'
    rcases hA hd sz l ha with ⟨h1, h2⟩ | ⟨off, rfl, h2 | ⟨m, h2⟩⟩
    · rcases hA hd' sz' l' ha' with ⟨h1', h2'⟩ | ⟨off', rfl, h2' | ⟨m', h2'⟩⟩
      · rw [h2] at hg'; rw [h2']; exact hg.apart hd hd' sz l sz' l' g hne h1 h1' hg'
      · rw [h2']; simp [blkOf, undef]
      · rw [h2']; simp [blkOf]
    · rw [h2] at hg'; cases hg'
    · rw [h2] at hg'; cases hg'

theorem vr_nilsl {sz : SlT} {l : List AV} {v : Value} (h : VR φ S (.sl .nil sz l) v) : v = .slice none 0 0 := by
  obtain ⟨A, cap, rfl, _, hn, _⟩ := vr_sl h
  obtain ⟨rfl, rfl, rfl⟩ := hn rfl
  rfl
theorem prom_nil {a : AV} {sz : SlT} {l : List AV} (ha : ∀ sz l, a ≠ .sl .yes sz l) (h : prom a = .sl .yes sz l) : a = .sl .nil sz l := by
  unfold prom at h
  split at h
  · cases h; rfl
  · exact absurd h (ha sz l)

theorem promW_yes {a : AV} {sz : SlT} {l : List AV} (h : promW a = .sl .yes sz l) : a = .sl .nil sz l := by
  unfold promW at h
  have := prom_nil (a := weak a) (fun sz l => by unfold weak; split <;> simp_all) h
  unfold weak at this
  split at this
  · cases this
  · exact this
theorem R1.promW {a : AV} {v : Value} (h : R1 φ S a v) : R1 φ S (promW a) v := h.weak.prom

/-- The cells of a value, laid into a new block. -/
theorem Rel.addCells (h : Rel n w0 S0 T0 φ S env σ tm w) {cs : List AV} {vs : Array Value} {T : TypeId} (hr : RL (R1 φ S) cs vs) (h1 : ∀ (i : Nat) (v : Value), vs[i]? = some v → v.oneCell' = true) :
    Rel n w0 S0 T0 (φ ++ [w.heap.size]) S env (σ ++ [.cells T (cs.map promW)]) tm (w.alloc (.cells vs T)) := by
  have hh : (w.alloc (.cells vs T)).heap[w.heap.size]? = some (.cells vs T (0, 0)) := by
    show (w.heap.push _)[w.heap.size]? = _
    rw [Array.getElem?_push, if_pos rfl]
  refine h.addBlk ⟨vs, hh, (hr.mono fun _ _ => R1.mono (fun _ _ _ h => h) (fiLe_append _ _)).map fun _ _ => R1.promW, h1⟩ ?_
  intro T1 l hl off sz l' ho v hv
  cases hl
  simp only [List.getElem?_map, Option.map_eq_some_iff] at ho
  obtain ⟨c, hc, hp⟩ := ho
  have := promW_yes hp
  subst this
  rw [cell_heap hh] at hv
  exact ⟨0, vr_nilsl (hr.2 off _ v hc hv).vr⟩
end

section
variable {P : Program} {n : Nat} {w0 : World} {S0 : Frz} {T0 : Nat → Prop} {φ : List Nat} {S : Frz} {env : Env} {σ : List Blk} {tm : Array Value} {w : World}

/-! ### A block that is written -/
theorem cellsAt_some {i : Nat} {l : List AV} (h : cellsAt σ i = some l) : ∃ T, σ[i]? = some (.cells T l) := by
  unfold cellsAt at h
  split at h
  · rename_i T' l' hl'; cases h; exact ⟨T', hl'⟩
  · cases h

/-- What a block holds is changed, on both sides; rights that the new cells hold are told. -/
theorem Rel.setBlk (h : Rel n w0 S0 T0 φ S env σ tm w) {i k : Nat} (hk : φ[i]? = some k) {b : Blk} {o : Obj} {w' : World} (hw' : w' = { w with heap := w.heap.setIfInBounds k o })
    (hb : BlkRel φ S w' k b)
    (hown : ∀ T l off sz l', b = .cells T l → l[off]? = some (.sl .yes sz l') → ∀ v, w'.cell? ⟨k, off, none⟩ = some v →
      Own1 φ S w sz l'.length v ∧ ∀ g, blkOf v = some g → (T0 g ∨ w0.heap.size ≤ g) ∧ (∀ hd' sz' l'', (∀ j, hd' ≠ .cell i j) → haA env σ hd' = .sl .yes sz' l'' → blkOf (haV φ tm w hd') ≠ some g) ∧
        ∀ off' sz' l'' v', off' ≠ off → l[off']? = some (.sl .yes sz' l'') → w'.cell? ⟨k, off', none⟩ = some v' → blkOf v' ≠ some g) :
    Rel n w0 S0 T0 φ S env (σ.set i b) tm w' := by
  have hklt := h.fi_lt hk
  have hheap : w'.heap = w.heap.setIfInBounds k o := by rw [hw']
  have hat : w'.heap[k]? = some o := by rw [hheap]; simp [hklt]
  have hoth : ∀ j, j ≠ k → w'.heap[j]? = w.heap[j]? := fun j hj => by rw [hheap]; simp [Array.getElem?_setIfInBounds_ne (Ne.symm hj)]
  have hinj : ∀ j, φ[j]? = some k → j = i := fun j hj => by
    have h1 := (List.getElem?_eq_some_iff.1 hj)
    have h2 := (List.getElem?_eq_some_iff.1 hk)
    obtain ⟨h1a, h1b⟩ := h1
    obtain ⟨h2a, h2b⟩ := h2
    exact (List.getElem_inj h.nodup).1 (h1b.trans h2b.symm)
  have hilt : i < σ.length := by rw [← h.len]; exact (List.getElem?_eq_some_iff.1 hk).1
  have hSk : ∀ o' v, S k o' ≠ some v := fun o' v e => by rw [h.free i k hk o'] at e; cases e
  have hA : ∀ hd, (∀ j, hd ≠ .cell i j) → haA env (σ.set i b) hd = haA env σ hd ∧ haV φ tm w' hd = haV φ tm w hd := fun hd hne => by
    cases hd with
    | tmp t => exact ⟨rfl, rfl⟩
    | cell j off =>
      have hj : j ≠ i := fun e => hne off (by rw [e])
      refine ⟨?_, haV_same _ fun i' off' k' he hk' => ?_⟩
      · simp only [haA, cellAt, cellsAt]
        rw [List.getElem?_set_ne (Ne.symm hj)]
      · cases he
        exact hoth k' fun e => hj (hinj _ (by rw [← e]; exact hk'))
  have hC : ∀ off sz l', haA env (σ.set i b) (.cell i off) = .sl .yes sz l' → ∃ T l, b = .cells T l ∧ l[off]? = some (.sl .yes sz l') ∧ (haV φ tm w' (.cell i off) = undef ∨ ∃ v, w'.cell? ⟨k, off, none⟩ = some v ∧ haV φ tm w' (.cell i off) = v) := fun off sz l' ha => by
    have hs : cellAt (σ.set i b) i off = some (.sl .yes sz l') := by
      simp only [haA] at ha
      cases hc : cellAt (σ.set i b) i off with
      | none => simp [hc] at ha
      | some x => simp [hc] at ha; rw [ha]
    obtain ⟨T1, l, h1, h2⟩ := cellAt_some hs
    rw [List.getElem?_set_self hilt] at h1
    cases h1
    refine ⟨T1, l, rfl, h2, ?_⟩
    simp only [haV, hk]
    cases hc : w'.cell? ⟨k, off, none⟩ with
    | none => exact .inl rfl
    | some v => exact .inr ⟨v, rfl, rfl⟩
  have ownW : ∀ (sz : SlT) (m : Nat) (v : Value), Own1 φ S w sz m v → Own1 φ S w' sz m v := fun sz m v ho => ho.carry fun g hg => ⟨hoth g fun e => ho.notin hg (by rw [e]; exact List.mem_of_getElem? hk), fun _ h => h⟩
  refine ⟨⟨fun b' o' v hv => ?_, h.sok.tab_of (fun _ _ _ h => h) fun g hg => .inl (hoth g fun e => ?_)⟩, ?_, h.size, h.vals, h.nodup, by simp [h.len], ?_, h.free, h.inT, ?_, ?_, ?_⟩
  · obtain ⟨h1, h2⟩ := h.sok b' o' v hv
    refine ⟨(cell_same (hoth b' fun e => ?_) o').trans h1, h2⟩
    subst e
    exact hSk _ _ hv
  · subst e
    exact hg (h.free i _ hk 0)
  · refine h.evo.trans (T' := fun x => x = k) ⟨by rw [hw'], by rw [hw'], by rw [hw'], by rw [hheap]; simp, fun j _ hj => hoth j hj, fun _ _ _ h => h, fun _ _ _ h => .inl h⟩ ?_
    intro x hx
    subst hx
    exact h.inT i _ hk
  · intro j k' c hc hk'
    by_cases hj : j = i
    · subst hj
      rw [List.getElem?_set_self hilt] at hc
      cases hc
      rw [hk] at hk'
      cases hk'
      exact hb
    · rw [List.getElem?_set_ne (Ne.symm hj)] at hc
      exact (h.blk j k' c hc hk').mono (fun _ _ _ h => h) (fun _ _ h => h) (hoth k' fun e => hj (hinj j (by rw [← e]; exact hk')))
  · intro hd sz l ha
    by_cases he : ∃ j, hd = .cell i j
    · obtain ⟨off, rfl⟩ := he
      obtain ⟨T1, l0, rfl, h2, h3 | ⟨v, h3, h4⟩⟩ := hC off sz l ha
      · rw [h3]; trivial
      · rw [h4]; exact ownW _ _ _ (hown T1 l0 off sz l rfl h2 v h3).1
    · obtain ⟨h1, h2⟩ := hA hd fun j e => he ⟨j, e⟩
      rw [h1] at ha
      rw [h2]
      exact ownW _ _ _ (h.own hd sz l ha)
  · intro hd sz l g ha hg
    by_cases he : ∃ j, hd = .cell i j
    · obtain ⟨off, rfl⟩ := he
      obtain ⟨T1, l0, rfl, h2, h3 | ⟨v, h3, h4⟩⟩ := hC off sz l ha
      · rw [h3] at hg; cases hg
      · rw [h4] at hg; exact ((hown T1 l0 off sz l rfl h2 v h3).2 g hg).1
    · obtain ⟨h1, h2⟩ := hA hd fun j e => he ⟨j, e⟩
      rw [h1] at ha
      rw [h2] at hg
      exact h.ownT hd sz l g ha hg
  · intro hd hd' sz l sz' l' g hne ha ha' hg
    by_cases he : ∃ j, hd = .cell i j
    · obtain ⟨off, rfl⟩ := he
      obtain ⟨T1, l0, hb0, h2, h3 | ⟨v, h3, h4⟩⟩ := hC off sz l ha
      · rw [h3] at hg; cases hg
      · rw [h4] at hg
        obtain ⟨_, q1, q2⟩ := (hown T1 l0 off sz l hb0 h2 v h3).2 g hg
        by_cases he' : ∃ j, hd' = .cell i j
        · obtain ⟨off', rfl⟩ := he'
          obtain ⟨T2, l1, hb1, h2', h3' | ⟨v', h3', h4'⟩⟩ := hC off' sz' l' ha'
          · rw [h3']; simp [blkOf, undef]
          · rw [h4']
            rw [hb0] at hb1
            cases hb1
            exact q2 off' sz' l' v' (fun e => hne (by rw [e])) h2' h3'
        · obtain ⟨h1', h2'⟩ := hA hd' fun j e => he' ⟨j, e⟩
          rw [h1'] at ha'
          rw [h2']
          exact q1 hd' sz' l' (fun j e => he' ⟨j, e⟩) ha'
    · obtain ⟨h1, h2⟩ := hA hd fun j e => he ⟨j, e⟩
      rw [h1] at ha
      rw [h2] at hg
      by_cases he' : ∃ j, hd' = .cell i j
      · obtain ⟨off', rfl⟩ := he'
        obtain ⟨T2, l1, rfl, h2', h3' | ⟨v', h3', h4'⟩⟩ := hC off' sz' l' ha'
        · rw [h3']; simp [blkOf, undef]
        · rw [h4']
          intro hg'
          exact ((hown T2 l1 off' sz' l' rfl h2' v' h3').2 g hg').2.1 hd sz l (fun j e => he ⟨j, e⟩) ha hg
      · obtain ⟨h1', h2'⟩ := hA hd' fun j e => he' ⟨j, e⟩
        rw [h1'] at ha'
        rw [h2']
        exact h.apart hd hd' sz l sz' l' g hne ha ha' hg
end
end Go.Pv
/- One operation: the machine does what 'opW' tells. -/
namespace Go.Pv
open Go

section
variable {P : Program} {n : Nat} {w0 : World} {S0 : Frz} {T0 : Nat → Prop} {φ : List Nat} {S : Frz} {w : World}

theorem AlRel.longer {al : Nat → Option Src} {tm : Array Value} {φ' : List Nat} {w' : World} (h : AlRel φ al tm w) (hf : FiLe φ φ') (hw : ∀ (b k : Nat), φ[b]? = some k → w'.heap[k]? = w.heap[k]?) : AlRel φ' al tm w' := fun t r hr => by
  have := h t r hr
  cases r with
  | slot o => exact this
  | cell b off =>
    obtain ⟨k, h1, h2⟩ := this
    exact ⟨k, hf _ _ h1, (cell_same (hw b k h1) off).trans h2⟩

theorem put_rel {s : St} {a : Act} {dst : Option Nat} (hd : ∀ d, dst = some d → d < n) (h : Rel n w0 S0 T0 φ S s.env s.st a.tmps w) (hA : AlRel φ s.al a.tmps w) {av : AV} {v : Value} (hv : VR φ S av v) {r : Option Src}
    (hown : ∀ sz l, av = .sl .yes sz l → Own1 φ S w sz l.length v ∧ ∀ g, blkOf v = some g → (T0 g ∨ w0.heap.size ≤ g) ∧ ∀ hd' sz' l', (∀ d, dst = some d → hd' ≠ .tmp d) → haA s.env s.st hd' = .sl .yes sz' l' → blkOf (haV φ a.tmps w hd') ≠ some g)
    (hr : ∀ x, r = some x → match x with
      | .slot o => v = a.tmps.getD o undef
      | .cell b off => ∃ k, φ[b]? = some k ∧ w.cell? ⟨k, off, none⟩ = some v) :
    Rel n w0 S0 T0 φ S (s.put dst av r).env (s.put dst av r).st (a.put dst v).tmps w ∧ AlRel φ (s.put dst av r).al (a.put dst v).tmps w ∧ (a.put dst v).defers = a.defers := by
  cases dst with
  | none => exact ⟨h, hA, rfl⟩
  | some d =>
    have hdn := hd d rfl
    have hsz : d < a.tmps.size := by rw [h.size]; exact hdn
    refine ⟨h.put hdn hv fun sz l e => ?_, fun t x hx => ?_, rfl⟩
    · obtain ⟨h1, h2⟩ := hown sz l e
      exact ⟨h1, fun g hg => ⟨(h2 g hg).1, fun hd' sz' l' hne => (h2 g hg).2 hd' sz' l' fun d' e' => by cases e'; exact hne⟩⟩
    · simp only [St.put, setAl] at hx
      simp only [Act.put]
      split at hx
      · rename_i e
        subst e
        have := hr x hx
        cases x with
        | slot o =>
          simp only at this ⊢
          rw [getD_set hsz, getD_set hsz, if_pos rfl]
          split
          · rfl
          · exact this
        | cell b off =>
          simp only at this ⊢
          obtain ⟨k, h1, h2⟩ := this
          exact ⟨k, h1, by rw [getD_set hsz, if_pos rfl]; exact h2⟩
      · rename_i hne
        unfold invT at hx
        rw [if_neg hne] at hx
        split at hx
        · rename_i o ho
          split at hx
          · cases hx
          · rename_i hod
            cases hx
            have := hA t _ ho
            simp only at this ⊢
            rw [getD_set hsz, getD_set hsz, if_neg hne, if_neg hod]
            exact this
        · have := hA t _ hx
          cases x with
          | slot o => rename_i hno; exact absurd hx (hno o)
          | cell b off =>
            obtain ⟨k, h1, h2⟩ := this
            exact ⟨k, h1, by rw [getD_set hsz, if_neg hne]; exact h2⟩

/-- The shape of every step's proof. -/
def NextOk (n : Nat) (w0 : World) (S0 : Frz) (T0 : Nat → Prop) (φ : List Nat) (K : St → Prop) (next : Act → World → Prop) : Prop :=
  ∀ s' φ' S' a' w', K s' → FiLe φ φ' → Rel n w0 S0 T0 φ' S' s'.env s'.st a'.tmps w' → AlRel φ' s'.al a'.tmps w' → a'.defers = [] → next a' w'

theorem wp_value {o : Oper} {a : Act} {next : Act → World → Prop} {Q : Exit → Act → World → Prop} {v : Value} {w' : World} (h : (execOp a.eval o).run P w = .ok (.value v) w') (hn : next (a.put o.dst v) w') : o.wp P a w next Q := by
  unfold Oper.wp; rw [h]; exact hn
theorem wp_skip' {o : Oper} {a : Act} {next : Act → World → Prop} {Q : Exit → Act → World → Prop} {w' : World} (h : (execOp a.eval o).run P w = .ok .skip w') (hn : next (a.put o.dst undef) w') : o.wp P a w next Q := by
  unfold Oper.wp; rw [h]; exact hn

theorem kill_rel {s : St} {tm : Array Value} (h : Rel n w0 S0 T0 φ S s.env s.st tm w) (x : Operand) : Rel n w0 S0 T0 φ S (s.kill x).env (s.kill x).st tm w := by
  cases x with
  | tmp t => exact h.forget t
  | _ => exact h
theorem kill_al {s : St} (x : Operand) : (s.kill x).al = s.al := by cases x <;> rfl

theorem Rel.evs {s : St} {a : Act} (h : Rel n w0 S0 T0 φ S s.env s.st a.tmps w) (T : TypeId) (x : Operand) : VR φ S (ev P s.env T x) (a.eval x) := ev_rel h.vals T x

theorem leafA_no {T : TypeId} {v : Value} {x : AV} (h : leafA P T v = some x) (sz : SlT) (l : List AV) : x ≠ .sl .yes sz l := by
  unfold leafA at h
  split at h
  all_goals first
    | (cases h; simp; done)
    | cases h
    | (cases he : esz P T with
       | none => simp [he] at h
       | some m => simp [he] at h; subst h; simp)
theorem ev_yes {env : Env} {T : TypeId} {x : Operand} {sz : SlT} {l : List AV} (h : ev P env T x = .sl .yes sz l) : ∃ t, x = .tmp t ∧ env t = .sl .yes sz l := by
  cases x with
  | tmp t => exact ⟨t, rfl, h⟩
  | const v =>
    simp only [ev] at h
    cases hl : leafA P T v with
    | none => simp [hl] at h
    | some y => simp [hl] at h; exact absurd h (leafA_no hl sz l)
  | global g => simp [ev] at h
  | func f => simp [ev] at h

/-- A value that is moved: its right goes with it. -/
theorem moved_own {s : St} {a : Act} (h : Rel n w0 S0 T0 φ S s.env s.st a.tmps w) (T : TypeId) (x : Operand) (sz : SlT) (l : List AV) (e : prom (ev P s.env T x) = .sl .yes sz l) :
    Own1 φ S w sz l.length (a.eval x) ∧ ∀ g, blkOf (a.eval x) = some g → (T0 g ∨ w0.heap.size ≤ g) ∧ ∀ hd' sz' l', haA (s.kill x).env (s.kill x).st hd' = .sl .yes sz' l' → blkOf (haV φ a.tmps w hd') ≠ some g := by
  by_cases hy : ∃ sz l, ev P s.env T x = .sl .yes sz l
  · obtain ⟨sz1, l1, hy⟩ := hy
    have e' : ev P s.env T x = .sl .yes sz l := by rw [hy] at e ⊢; exact e
    obtain ⟨t, rfl, ht⟩ := ev_yes e'
    refine ⟨h.own (.tmp t) sz l ht, fun g hg => ⟨h.ownT (.tmp t) sz l g ht hg, fun hd' sz' l' ha' => ?_⟩⟩
    by_cases hh : hd' = .tmp t
    · subst hh
      simp only [haA, St.kill, upd, if_true] at ha'
      exact absurd ha' (weak_no _ _ _)
    · refine h.apart (.tmp t) hd' sz l sz' l' g (Ne.symm hh) ht ?_ hg
      cases hd' with
      | tmp u =>
        simp only [haA, St.kill, upd] at ha' ⊢
        rw [if_neg (fun e => hh (by rw [e]))] at ha'
        exact ha'
      | cell i off => exact ha'
  · have hn := prom_nil (fun sz l e => hy ⟨sz, l, e⟩) e
    have hv := h.evs (P := P) T x
    rw [hn] at hv
    rw [vr_nilsl hv]
    exact ⟨rfl, fun g hg => by cases hg⟩

theorem step_assign {o : Oper} {a : Act} {s : St} {x : Operand} (hop : o.op = .assign x) {K : St → Prop} {next : Act → World → Prop} {Q : Exit → Act → World → Prop} (hd : ∀ d, o.dst = some d → d < n)
    (h : K ((s.kill x).put o.dst (prom (ev P s.env o.type x)) none)) (hR : Rel n w0 S0 T0 φ S s.env s.st a.tmps w) (hA : AlRel φ s.al a.tmps w) (hdf : a.defers = []) (hK : NextOk n w0 S0 T0 φ K next) : o.wp P a w next Q := by
  refine wp_value (v := a.eval x) (w' := w) (by simp [execOp, hop]) ?_
  obtain ⟨h1, h2, h3⟩ := put_rel (s := s.kill x) (a := a) hd (kill_rel hR x) (by rw [kill_al]; exact hA) (hR.evs (P := P) o.type x).prom (r := none)
    (fun sz l e => by
      obtain ⟨q1, q2⟩ := moved_own hR o.type x sz l e
      exact ⟨q1, fun g hg => ⟨(q2 g hg).1, fun hd' sz' l' _ => (q2 g hg).2 hd' sz' l'⟩⟩)
    (fun x e => by cases e)
  exact hK _ _ _ _ _ h (fun _ _ h => h) h1 h2 (by rw [h3, hdf])

theorem step_alloc {o : Oper} {a : Act} {s : St} {T : TypeId} {cs : List AV} (hop : o.op = .alloc T) (hz : zeroA P T = some cs) {K : St → Prop} {next : Act → World → Prop} {Q : Exit → Act → World → Prop} (hd : ∀ d, o.dst = some d → d < n)
    (h : K (St.put { s with st := s.st ++ [Blk.cells T (cs.map promW)] } o.dst (.ptr s.st.length 0) none)) (hR : Rel n w0 S0 T0 φ S s.env s.st a.tmps w) (hA : AlRel φ s.al a.tmps w) (hdf : a.defers = []) (hK : NextOk n w0 S0 T0 φ K next) : o.wp P a w next Q := by
  obtain ⟨z, h1, h2, h3⟩ := zero_run (S := S) (w := w) hz
  refine wp_value (v := .pointer (some ⟨w.heap.size, 0, none⟩)) (w' := w.alloc (.cells z.cells T)) (by simp [execOp, hop, Instr.alloc, h1, newVar, newRow]) ?_
  have hR' := hR.addCells (T := T) (h2.mono fun _ _ => VP.r1) h3
  have hA' : AlRel (φ ++ [w.heap.size]) s.al a.tmps (w.alloc (.cells z.cells T)) := hA.longer (fiLe_append _ _) fun b k hk => (alloc_longer w _).heap k (hR.fi_lt hk)
  have hlast : (φ ++ [w.heap.size])[s.st.length]? = some w.heap.size := by rw [← hR.len]; simp
  obtain ⟨g1, g2, g3⟩ := put_rel (s := { s with st := s.st ++ [Blk.cells T (cs.map promW)] }) (a := a) hd hR' hA' (av := .ptr s.st.length 0) (v := .pointer (some ⟨w.heap.size, 0, none⟩)) ⟨_, hlast, rfl⟩ (r := none) (fun sz l e => by cases e) (fun x e => by cases e)
  exact hK _ _ _ _ _ h (fiLe_append _ _) g1 g2 (by rw [g3, hdf])

theorem weak_sto {x : AV} (h : stoA x = true) : stoA (weak x) = true := by
  unfold weak; split
  · rfl
  · exact h

theorem step_box {o : Oper} {a : Act} {s : St} {T : TypeId} {x : Operand} (hop : o.op = .box T x) (hst : stoA (ev P s.env T x) = true) {K : St → Prop} {next : Act → World → Prop} {Q : Exit → Act → World → Prop} (hd : ∀ d, o.dst = some d → d < n)
    (h : K (St.put { s with st := s.st ++ [Blk.cells T ((ev P s.env T x).cells.map promW)] } o.dst (.ptr s.st.length 0) none)) (hR : Rel n w0 S0 T0 φ S s.env s.st a.tmps w) (hA : AlRel φ s.al a.tmps w) (hdf : a.defers = []) (hK : NextOk n w0 S0 T0 φ K next) : o.wp P a w next Q := by
  obtain ⟨h2, h3⟩ := (hR.evs (P := P) T x).cells hst
  refine wp_value (v := .pointer (some ⟨w.heap.size, 0, none⟩)) (w' := w.alloc (.cells (a.eval x).cells T)) (by simp [execOp, hop, Instr.box, newVar, newRow]) ?_
  have hR' := hR.addCells (T := T) h2 h3
  have hA' : AlRel (φ ++ [w.heap.size]) s.al a.tmps (w.alloc (.cells (a.eval x).cells T)) := hA.longer (fiLe_append _ _) fun b k hk => (alloc_longer w _).heap k (hR.fi_lt hk)
  have hlast : (φ ++ [w.heap.size])[s.st.length]? = some w.heap.size := by rw [← hR.len]; simp
  obtain ⟨g1, g2, g3⟩ := put_rel (s := { s with st := s.st ++ [Blk.cells T ((ev P s.env T x).cells.map promW)] }) (a := a) hd hR' hA' (av := .ptr s.st.length 0) (v := .pointer (some ⟨w.heap.size, 0, none⟩)) ⟨_, hlast, rfl⟩ (r := none) (fun sz l e => by cases e) (fun x e => by cases e)
  exact hK _ _ _ _ _ h (fiLe_append _ _) g1 g2 (by rw [g3, hdf])

theorem step_range {o : Oper} {a : Act} {s : St} {T : TypeId} {x : Operand} {t : List UInt8} (hop : o.op = .range T x) (hT : P.underlying T = some .string) (hx : ev P s.env T x = .str t) {K : St → Prop} {next : Act → World → Prop} {Q : Exit → Act → World → Prop} (hd : ∀ d, o.dst = some d → d < n)
    (h : K (St.put { s with st := s.st ++ [Blk.siter t 0] } o.dst (.iter s.st.length) none)) (hR : Rel n w0 S0 T0 φ S s.env s.st a.tmps w) (hA : AlRel φ s.al a.tmps w) (hdf : a.defers = []) (hK : NextOk n w0 S0 T0 φ K next) : o.wp P a w next Q := by
  have hv := hR.evs (P := P) T x
  rw [hx] at hv
  refine wp_value (v := .pointer (some ⟨w.heap.size, 0, none⟩)) (w' := w.alloc (.stringIter ⟨t.toArray⟩ 0)) (by simp [execOp, hop, Instr.range, run_underlying hT, vr_str hv]) ?_
  have hR' := hR.addBlk (o := .stringIter ⟨t.toArray⟩ 0) (b := .siter t 0) (by
    show (w.heap.push _)[w.heap.size]? = _
    rw [Array.getElem?_push, if_pos rfl]) (fun T l hl => by cases hl)
  have hA' : AlRel (φ ++ [w.heap.size]) s.al a.tmps (w.alloc (.stringIter ⟨t.toArray⟩ 0)) := hA.longer (fiLe_append _ _) fun b k hk => (alloc_longer w _).heap k (hR.fi_lt hk)
  have hlast : (φ ++ [w.heap.size])[s.st.length]? = some w.heap.size := by rw [← hR.len]; simp
  obtain ⟨g1, g2, g3⟩ := put_rel (s := { s with st := s.st ++ [Blk.siter t 0] }) (a := a) hd hR' hA' (av := .iter s.st.length) (v := .pointer (some ⟨w.heap.size, 0, none⟩)) ⟨_, hlast, rfl⟩ (r := none) (fun sz l e => by cases e) (fun x e => by cases e)
  exact hK _ _ _ _ _ h (fiLe_append _ _) g1 g2 (by rw [g3, hdf])

theorem AlRel.touched {al : Nat → Option Src} {tm : Array Value} {w' : World} (h : AlRel φ al tm w) (bs : List Nat) (hw : ∀ (b k : Nat), b ∉ bs → φ[b]? = some k → w'.heap[k]? = w.heap[k]?) : AlRel φ (invB bs al) tm w' := fun t r hr => by
  unfold invB at hr
  split at hr
  · rename_i b off ho
    split at hr
    · cases hr
    · rename_i hb
      cases hr
      obtain ⟨k, h1, h2⟩ := h t _ ho
      exact ⟨k, h1, (cell_same (hw b k hb h1) off).trans h2⟩
  · rename_i hno
    have := h t r hr
    cases r with
    | slot o => exact this
    | cell b off => exact absurd hr (hno b off)

theorem step_next {o : Oper} {a : Act} {s : St} {it : Operand} {b : Nat} {t : List UInt8} {pos : Nat} (hop : o.op = .next it true) (hit : ev P s.env 0 it = .iter b) (hb : s.st[b]? = some (.siter t pos)) {K : St → Prop} {next : Act → World → Prop} {Q : Exit → Act → World → Prop} (hd : ∀ d, o.dst = some d → d < n)
    (h : if pos < t.length then
          K (St.put { s with st := s.st.set b (.siter t (pos + (Utf8.decode ⟨t.toArray⟩ pos).2)) } o.dst (.tup [.bool true, .int .i64 pos, .int .i32 (Utf8.decode ⟨t.toArray⟩ pos).1]) none)
        else K (s.put o.dst (.tup [.bool false]) none))
    (hR : Rel n w0 S0 T0 φ S s.env s.st a.tmps w) (hA : AlRel φ s.al a.tmps w) (hdf : a.defers = []) (hK : NextOk n w0 S0 T0 φ K next) : o.wp P a w next Q := by
  have hv := hR.evs (P := P) 0 it
  rw [hit] at hv
  obtain ⟨k, hk, hv⟩ := vr_iter hv
  have hbr := hR.blk b k _ hb hk
  have hsz : (⟨t.toArray⟩ : ByteArray).size = t.length := by simp [ByteArray.size]
  have hget : (getObj k).run P w = .ok (.stringIter ⟨t.toArray⟩ pos) w := by
    have : w.heap[k]? = some (.stringIter ⟨t.toArray⟩ pos) := hbr
    simp [getObj, Sem.run, this]
  by_cases hp : pos < t.length
  · rw [if_pos hp] at h
    have hset : (setObj k (.stringIter ⟨t.toArray⟩ (pos + (Utf8.decode ⟨t.toArray⟩ pos).2))).run P w = .ok () { w with heap := w.heap.setIfInBounds k (.stringIter ⟨t.toArray⟩ (pos + (Utf8.decode ⟨t.toArray⟩ pos).2)) } := by
      have : w.heap[k]? = some (.stringIter ⟨t.toArray⟩ pos) := hbr
      simp [setObj, Sem.run, this]
    refine wp_value (v := .tuple #[.bool true, .int .i64 pos, .int .i32 (Utf8.decode ⟨t.toArray⟩ pos).1]) (w' := { w with heap := w.heap.setIfInBounds k (.stringIter ⟨t.toArray⟩ (pos + (Utf8.decode ⟨t.toArray⟩ pos).2)) }) (by simp [execOp, hop, hv, Instr.next, hget, hsz, hp, hset, goInt]) ?_
    have hklt := hR.fi_lt hk
    have hR' := hR.setBlk hk (o := .stringIter ⟨t.toArray⟩ (pos + (Utf8.decode ⟨t.toArray⟩ pos).2)) (b := .siter t (pos + (Utf8.decode ⟨t.toArray⟩ pos).2)) rfl (by
      show (w.heap.setIfInBounds k _)[k]? = _
      simp [hklt]) (fun T l _ _ _ hl => by cases hl)
    have hA' : AlRel φ s.al a.tmps { w with heap := w.heap.setIfInBounds k (.stringIter ⟨t.toArray⟩ (pos + (Utf8.decode ⟨t.toArray⟩ pos).2)) } := fun u r hr => by
      have := hA u r hr
      cases r with
      | slot o => exact this
      | cell c off =>
        obtain ⟨k', h1, h2⟩ := this
        refine ⟨k', h1, ?_⟩
        by_cases hkk : k' = k
        · subst hkk
          exfalso
          have : w.heap[k']? = some (.stringIter ⟨t.toArray⟩ pos) := hbr
          simp [World.cell?, this] at h2
        · rw [cell_same (w := w) (w' := { w with heap := w.heap.setIfInBounds k (.stringIter ⟨t.toArray⟩ (pos + (Utf8.decode ⟨t.toArray⟩ pos).2)) }) (by simp [Array.getElem?_setIfInBounds_ne (Ne.symm hkk)])]
          exact h2
    have hval : VR φ S (.tup [.bool true, .int .i64 pos, .int .i32 (Utf8.decode ⟨t.toArray⟩ pos).1]) (.tuple #[.bool true, .int .i64 pos, .int .i32 (Utf8.decode ⟨t.toArray⟩ pos).1]) := by
      refine ⟨_, rfl, rfl, fun i c x hc hx => ?_⟩
      match i with
      | 0 => simp at hc hx; subst hc; subst hx; exact (VP.bool true).r2
      | 1 => simp at hc hx; subst hc; subst hx; exact (VP.int _ _).r2
      | 2 => simp at hc hx; subst hc; subst hx; exact (VP.int _ _).r2
      | i + 3 => simp at hc
    obtain ⟨g1, g2, g3⟩ := put_rel (s := { s with st := s.st.set b (.siter t (pos + (Utf8.decode ⟨t.toArray⟩ pos).2)) }) (a := a) hd hR' hA' hval (r := none) (fun sz l e => by cases e) (fun x e => by cases e)
    exact hK _ _ _ _ _ h (fun _ _ h => h) g1 g2 (by rw [g3, hdf])
  · rw [if_neg hp] at h
    refine wp_value (v := .tuple #[.bool false]) (w' := w) (by simp [execOp, hop, hv, Instr.next, hget, hsz, hp]) ?_
    have hval : VR φ S (.tup [.bool false]) (.tuple #[.bool false]) := by
      refine ⟨_, rfl, rfl, fun i c x hc hx => ?_⟩
      match i with
      | 0 => simp at hc hx; subst hc; subst hx; exact (VP.bool false).r2
      | i + 1 => simp at hc
    obtain ⟨g1, g2, g3⟩ := put_rel (s := s) (a := a) hd hR hA hval (r := none) (fun sz l e => by cases e) (fun x e => by cases e)
    exact hK _ _ _ _ _ h (fun _ _ h => h) g1 g2 (by rw [g3, hdf])
end
end Go.Pv
/- One operation, second part: stores, appends. -/
namespace Go.Pv
open Go

def setObjAt (w : World) (g : Nat) (o : Obj) : World := { w with heap := w.heap.setIfInBounds g o }
theorem setObjAt_at {w : World} {g : Nat} {o : Obj} (h : g < w.heap.size) : (setObjAt w g o).heap[g]? = some o := by simp [setObjAt, h]
theorem setObjAt_other {w : World} {g j : Nat} {o : Obj} (h : j ≠ g) : (setObjAt w g o).heap[j]? = w.heap[j]? := by simp [setObjAt, Array.getElem?_setIfInBounds_ne (Ne.symm h)]
theorem setObjAt_twice {w : World} {g : Nat} {o o' : Obj} : setObjAt (setObjAt w g o) g o' = setObjAt w g o' := by simp [setObjAt]
theorem setObjAt_self {w : World} {g : Nat} {o : Obj} (h : w.heap[g]? = some o) : setObjAt w g o = w := by
  have hlt := heap_lt h
  unfold setObjAt
  have e : w.heap.setIfInBounds g o = w.heap := by
    apply Array.ext_getElem?
    intro i
    by_cases hi : g = i
    · subst hi; rw [Array.getElem?_setIfInBounds_self, if_pos hlt, h]
    · rw [Array.getElem?_setIfInBounds_ne hi]
  rw [e]

theorem setCell_row {w : World} {g o : Nat} {cur : Array Value} {T : TypeId} {fr : Nat × Nat} {v : Value} (h : w.heap[g]? = some (.cells cur T fr)) : w.setCell ⟨g, o, none⟩ v = setObjAt w g (.cells (cur.setIfInBounds o v) T fr) := by
  have hlt := heap_lt h
  have hv : w.heap[g] = .cells cur T fr := (Array.getElem?_eq_some_iff.1 h).2
  unfold World.setCell setObjAt
  congr 1
  apply Array.ext_getElem?
  intro i
  rw [Array.getElem?_modify]
  by_cases hi : g = i
  · subst hi
    rw [if_pos rfl, h]
    simp [hlt]
  · rw [if_neg hi, Array.getElem?_setIfInBounds_ne hi]

theorem store_row {P : Program} {g o : Nat} {T : TypeId} {fr : Nat × Nat} : ∀ (vs : List Value) (i : Nat) (cur : Array Value) (w : World), w.heap[g]? = some (.cells cur T fr) → o + i + vs.length ≤ cur.size → (∀ v ∈ vs, v.oneCell' = true) →
    (∀ j, o + i ≤ j → j < o + i + vs.length → ¬ (fr.1 ≤ j ∧ j < fr.2)) →
    (storeCells ⟨g, o, none⟩ vs i).run P w = .ok () (setObjAt w g (.cells (cur.toList.take (o + i) ++ vs ++ cur.toList.drop (o + i + vs.length)).toArray T fr))
  | [], i, cur, w, hg, _, _, _ => by
    simp only [storeCells, List.append_nil, List.length_nil, Nat.add_zero, List.take_append_drop, Array.toArray_toList]
    rw [setObjAt_self hg]
    rfl
  | v :: rest, i, cur, w, hg, hl, h1, hf => by
    have hi : o + i < cur.size := by simp at hl; omega
    have hcell : w.cell? ⟨g, o + i, none⟩ = some cur[o + i] := by rw [cell_heap hg]; simp [hi]
    have hfro : w.frozen? ⟨g, o + i, none⟩ = false := by
      have := hf (o + i) (Nat.le_refl _) (by simp)
      obtain ⟨lo, hi'⟩ := fr
      simp only [World.frozen?, hg]
      simp only at this
      by_cases h2 : lo ≤ o + i
      · have : ¬ o + i < hi' := fun h3 => this ⟨h2, h3⟩
        simp [this]
      · simp [h2]
    have hst : (store ((⟨g, o, none⟩ : Addr).add i) v).run P w = .ok () (setObjAt w g (.cells (cur.setIfInBounds (o + i) v) T fr)) := by
      rw [add_plain, run_store P w _ v _ (h1 v (by simp)), hcell]
      simp [hfro, setCell_row hg]
    have ih := store_row (P := P) rest (i + 1) (cur.setIfInBounds (o + i) v) (setObjAt w g (.cells (cur.setIfInBounds (o + i) v) T fr)) (setObjAt_at (heap_lt hg)) (by simp at hl ⊢; omega) (fun x hx => h1 x (by simp [hx]))
      (fun j (h2 : o + (i + 1) ≤ j) (h3 : j < o + (i + 1) + rest.length) => hf j (by omega) (by simp only [List.length_cons]; omega))
    simp only [storeCells, Sem.run_bind, hst, Result.andThen_ok, ih, setObjAt_twice]
    congr 3
    have e := list_seg_step cur.toList (o + i) v rest (by simp at hl ⊢; omega)
    simpa [Array.toList_setIfInBounds, Nat.add_assoc] using e

section
variable {P : Program} {n : Nat} {w0 : World} {S0 : Frz} {T0 : Nat → Prop} {φ : List Nat} {S : Frz} {w : World}

theorem stCells_len (x : AV) : (stCells x).length = x.cells.length := by cases x <;> simp [stCells, AV.cells]
theorem stCells_yes {x : AV} {i : Nat} {sz : SlT} {l : List AV} (h : (stCells x)[i]? = some (.sl .yes sz l)) : (i = 0 ∧ prom x = .sl .yes sz l) ∨ ∃ cs, x = .agg cs ∧ cs[i]? = some (.sl .nil sz l) := by
  by_cases hx : ∃ cs, x = .agg cs
  · obtain ⟨cs, rfl⟩ := hx
    right
    simp only [stCells, List.getElem?_map, Option.map_eq_some_iff] at h
    obtain ⟨c, hc, hp⟩ := h
    exact ⟨cs, rfl, by rw [hc, promW_yes hp]⟩
  · left
    have e : stCells x = [prom x] := by cases x <;> first | rfl | exact absurd ⟨_, rfl⟩ hx
    rw [e] at h
    cases i with
    | zero => simp at h; exact ⟨rfl, h⟩
    | succ i => simp at h
theorem stCells_rel {x : AV} {v : Value} (h : VR φ S x v) (hx : stoA x = true) : RL (R1 φ S) (stCells x) v.cells := by
  have hc := (h.cells hx).1
  by_cases hx : ∃ cs, x = .agg cs
  · obtain ⟨cs, rfl⟩ := hx
    exact hc.map fun _ _ => R1.promW
  · have e : stCells x = x.cells.map prom := by cases x <;> first | rfl | exact absurd ⟨_, rfl⟩ hx
    rw [e]
    exact hc.map fun _ _ => R1.prom

theorem step_store {o : Oper} {a : Act} {s : St} {T : TypeId} {p x : Operand} {b off : Nat} {cs : List AV} (hop : o.op = .store T p x) (hp : ev P s.env 0 p = .ptr b off) (hb : cellsAt s.st b = some cs)
    (hs : tsz P T = some (ev P s.env T x).cells.length) (hle : off + (ev P s.env T x).cells.length ≤ cs.length) (hst : stoA (ev P s.env T x) = true)
    {K : St → Prop} {next : Act → World → Prop} {Q : Exit → Act → World → Prop} (hd : ∀ d, o.dst = some d → d < n)
    (h : K (St.put (let s1 := s.kill x; { s1 with st := setB s.st b (lay cs off (stCells (ev P s.env T x))), al := invB [b] s.al }) o.dst (.tup []) none))
    (hR : Rel n w0 S0 T0 φ S s.env s.st a.tmps w) (hA : AlRel φ s.al a.tmps w) (hdf : a.defers = []) (hK : NextOk n w0 S0 T0 φ K next) : o.wp P a w next Q := by
  have hpv := hR.evs (P := P) 0 p
  rw [hp] at hpv
  obtain ⟨k, hk, hpv⟩ := vr_ptr hpv
  have hxv := hR.evs (P := P) T x
  obtain ⟨h2, h3⟩ := hxv.cells hst
  obtain ⟨T', hσ⟩ := cellsAt_some hb
  obtain ⟨cur, g1, g2, g3⟩ := hR.blk b k _ hσ hk
  have hsz : (a.eval x).cells.size = (ev P s.env T x).cells.length := h2.1.symm
  have hrun := store_row (P := P) (g := k) (o := off) (T := T') (fr := (0, 0)) (a.eval x).cells.toList 0 cur w g1 (by simp [hsz, ← g2.1]; omega) (fun v hv => by
    obtain ⟨i, hi⟩ := List.getElem?_of_mem hv
    exact h3 i v (by simpa using hi)) (fun j _ _ => by simp)
  simp only [Nat.add_zero] at hrun
  refine wp_skip' (w' := setObjAt w k (.cells (cur.toList.take off ++ (a.eval x).cells.toList ++ cur.toList.drop (off + (a.eval x).cells.toList.length)).toArray T' (0, 0))) (by
    simp [execOp, hop, hpv, Instr.storeAt, Instr.sureAddr, storeVar, run_tsz hs, hsz, hrun]) ?_
  have hklt := hR.fi_lt hk
  have hRk := kill_rel hR x
  have hlay : RL (R1 φ S) (lay cs off (stCells (ev P s.env T x))) (cur.toList.take off ++ (a.eval x).cells.toList ++ cur.toList.drop (off + (a.eval x).cells.toList.length)).toArray :=
    RL.lay g2 (stCells_rel hxv hst) (by rw [stCells_len]; exact hle)
  have hat : (setObjAt w k (.cells (cur.toList.take off ++ (a.eval x).cells.toList ++ cur.toList.drop (off + (a.eval x).cells.toList.length)).toArray T' (0, 0))).heap[k]? = _ := setObjAt_at hklt
  have hst2 : (s.kill x).st = s.st := by cases x <;> rfl
  have hvals := (hxv.cells hst).1
  have hR' := hRk.setBlk hk (o := .cells (cur.toList.take off ++ (a.eval x).cells.toList ++ cur.toList.drop (off + (a.eval x).cells.toList.length)).toArray T' (0, 0)) (b := .cells T' (lay cs off (stCells (ev P s.env T x)))) rfl
    ⟨_, hat, hlay, one_lay g3 h3 _⟩ (by
      intro T1 l off' sz l' hl ho v hv
      cases hl
      -- which cell is it?
      have hvr : (cur.toList.take off ++ (a.eval x).cells.toList ++ cur.toList.drop (off + (a.eval x).cells.toList.length)).toArray[off']? = some v := by
        have := cell_heap (o := off') hat
        exact this.symm.trans hv
      have htk : (cs.take off).length = off := by simp; omega
      have htk' : (cur.toList.take off).length = off := by simp [← g2.1]; omega
      have hlen : (a.eval x).cells.toList.length = (stCells (ev P s.env T x)).length := by rw [stCells_len]; simpa using hsz
      have old : ∀ off' sz l' v, (lay cs off (stCells (ev P s.env T x)))[off']? = some (.sl .yes sz l') → (cur.toList.take off ++ (a.eval x).cells.toList ++ cur.toList.drop (off + (a.eval x).cells.toList.length)).toArray[off']? = some v →
          (cs[off']? = some (.sl .yes sz l') ∧ cur[off']? = some v) ∨ (off' = off ∧ prom (ev P s.env T x) = .sl .yes sz l' ∧ v = a.eval x) ∨ v = .slice none 0 0 := by
        intro off' sz l' v ho hvr
        unfold lay at ho
        simp only [List.append_assoc] at ho
        simp only [List.getElem?_toArray, List.append_assoc] at hvr
        rw [List.getElem?_append, htk] at ho
        rw [List.getElem?_append, htk'] at hvr
        by_cases c1 : off' < off
        · rw [if_pos c1] at ho hvr
          rw [List.getElem?_take, if_pos c1] at ho hvr
          exact .inl ⟨ho, by simpa using hvr⟩
        · rw [if_neg c1] at ho hvr
          rw [List.getElem?_append] at ho hvr
          rw [hlen] at hvr
          by_cases c2 : off' - off < (stCells (ev P s.env T x)).length
          · rw [if_pos c2] at ho hvr
            right
            rcases stCells_yes ho with ⟨e1, e2⟩ | ⟨cs', e1, e2⟩
            · left
              refine ⟨by omega, e2, ?_⟩
              have hns : ∃ z l, ev P s.env T x = .sl z sz l := by
                unfold prom at e2
                split at e2
                · rename_i e3; exact ⟨_, _, by rw [e3]; cases e2; rfl⟩
                · exact ⟨_, _, e2⟩
              obtain ⟨z, l0, e3⟩ := hns
              have hsl := hxv
              rw [e3] at hsl
              obtain ⟨A, cap, e4, _⟩ := vr_sl hsl
              rw [e4, e1] at hvr
              simp [Value.cells] at hvr
              rw [e4]; exact hvr.symm
            · right
              have := hvals.2 (off' - off) (.sl .nil sz l') v (by rw [e1]; exact e2) (by simpa using hvr)
              exact vr_nilsl this.vr
          · rw [if_neg c2] at ho hvr
            rw [List.getElem?_drop] at ho hvr
            have e5 : off + (stCells (ev P s.env T x)).length + (off' - off - (stCells (ev P s.env T x)).length) = off' := by omega
            rw [e5] at ho hvr
            exact .inl ⟨ho, by simpa using hvr⟩
      have cellV : ∀ off' v, cur[off']? = some v → haV φ a.tmps w (.cell b off') = v := fun off' v hc => by
        simp only [haV, hk]
        rw [cell_heap g1, hc]
        rfl
      have cellA : ∀ off' sz l', cs[off']? = some (.sl .yes sz l') → haA (s.kill x).env (s.kill x).st (.cell b off') = .sl .yes sz l' := fun off' sz l' hc => by
        simp only [haA, cellAt, hst2, hb, hc]; rfl
      have hmv := moved_own (P := P) hR T x
      rcases old off' sz l' v ho hvr with ⟨o1, o2⟩ | ⟨o1, o2, o3⟩ | o1
      · refine ⟨?_, fun g hg => ⟨?_, fun hd' sz' l'' hne ha' => ?_, fun off2 sz2 l2 v2 hne2 ho2 hv2 => ?_⟩⟩
        · have := hRk.own _ _ _ (cellA off' sz l' o1); rwa [cellV off' v o2] at this
        · exact hRk.ownT _ _ _ g (cellA off' sz l' o1) (by rw [cellV off' v o2]; exact hg)
        · exact hRk.apart (.cell b off') hd' sz l' sz' l'' g (Ne.symm (hne off')) (cellA off' sz l' o1) ha' (by rw [cellV off' v o2]; exact hg)
        · have hv2r := (cell_heap (o := off2) hat).symm.trans hv2
          rcases old off2 sz2 l2 v2 ho2 hv2r with ⟨p1, p2⟩ | ⟨p1, p2, p3⟩ | p1
          · have := hRk.apart (.cell b off') (.cell b off2) sz l' sz2 l2 g (fun e => hne2 (by cases e; rfl)) (cellA off' sz l' o1) (cellA off2 sz2 l2 p1) (by rw [cellV off' v o2]; exact hg)
            rwa [cellV off2 v2 p2] at this
          · rw [p3]
            intro hg2
            exact ((hmv sz2 l2 p2).2 g hg2).2 (.cell b off') sz l' (cellA off' sz l' o1) (by rw [cellV off' v o2]; exact hg)
          · rw [p1]; simp [blkOf]
      · obtain ⟨m1, m2⟩ := hmv sz l' o2
        rw [o3]
        refine ⟨m1, fun g hg => ⟨(m2 g hg).1, fun hd' sz' l'' _ ha' => (m2 g hg).2 hd' sz' l'' ha', fun off2 sz2 l2 v2 hne2 ho2 hv2 => ?_⟩⟩
        have hv2r := (cell_heap (o := off2) hat).symm.trans hv2
        rcases old off2 sz2 l2 v2 ho2 hv2r with ⟨p1, p2⟩ | ⟨p1, p2, p3⟩ | p1
        · have := (m2 g hg).2 (.cell b off2) sz2 l2 (cellA off2 sz2 l2 p1)
          rwa [cellV off2 v2 p2] at this
        · exact absurd (p1.trans o1.symm) hne2
        · rw [p1]; simp [blkOf]
      · rw [o1]; exact ⟨rfl, fun g hg => by cases hg⟩)
  have hA' : AlRel φ (invB [b] s.al) a.tmps (setObjAt w k (.cells (cur.toList.take off ++ (a.eval x).cells.toList ++ cur.toList.drop (off + (a.eval x).cells.toList.length)).toArray T' (0, 0))) :=
    hA.touched [b] fun b' k' hb' hk' => setObjAt_other fun e => hb' (by
      subst e
      have h1 := List.getElem?_eq_some_iff.1 hk'
      have h2 := List.getElem?_eq_some_iff.1 hk
      obtain ⟨q1, q2⟩ := h1
      obtain ⟨q3, q4⟩ := h2
      have := (List.getElem_inj hR.nodup).1 (q2.trans q4.symm)
      simp [this])
  have hsk : (s.kill x).st.set b (.cells T' (lay cs off (stCells (ev P s.env T x)))) = setB s.st b (lay cs off (stCells (ev P s.env T x))) := by rw [hst2]; simp [setB, hσ]
  rw [hsk] at hR'
  obtain ⟨q1, q2, q3⟩ := put_rel (s := (let s1 := s.kill x; { s1 with st := setB s.st b (lay cs off (stCells (ev P s.env T x))), al := invB [b] s.al })) (a := a) hd hR' hA' (av := .tup []) (v := undef) ⟨#[], rfl, rfl, fun i c v hc _ => by simp at hc⟩ (r := none) (fun sz l e => by cases e) (fun x e => by cases e)
  exact hK _ _ _ _ _ h (fun _ _ h => h) q1 q2 (by rw [q3, hdf])
end
end Go.Pv
/- Appends. -/
namespace Go.Pv
open Go

section
variable {P : Program} {φ : List Nat} {S : Frz} {w : World}

theorem appTy_of {T : TypeId} {sz : SlT} (h : appTy P T = some sz) : ∃ e i z, P.underlying T = some (.slice e) ∧ P.info? e = some i ∧ i.zero = some z ∧ z.cells.size = sz.n ∧ i.size = sz.n ∧ sz.e = e ∧ i.bytes ≤ byteLim := by
  unfold appTy at h
  split at h
  · rename_i e hu
    split at h
    · rename_i i hi
      split at h
      · rename_i z hz
        split at h
        · rename_i hc
          cases h
          exact ⟨e, i, z, hu, hi, hz, hc.1, rfl, rfl, hc.2⟩
        · cases h
      · cases h
    · cases h
  · cases h

/-- The cells of what is appended. -/
structure News (S : Frz) (sz : Nat) (ys : List AV) (news : List Value) : Prop where
  len : news.length = ys.length * sz
  at_ : ∀ (i j : Nat) (y c : AV), ys[i]? = some y → y.cells[j]? = some c → ∃ v, news[i * sz + j]? = some v ∧ VP S c v
  one : ∀ v ∈ news, v.oneCell' = true

theorem idx_lt {sz i j len : Nat} (hi : i < len) (hj : j < sz) : i * sz + j < len * sz := by
  have h2 : (i + 1) * sz ≤ len * sz := Nat.mul_le_mul_right _ hi
  rw [Nat.add_mul] at h2
  omega

theorem flat_idx {sz : Nat} {ys : List AV} (hz : ∀ y ∈ ys, y.cells.length = sz) {k : Nat} (hk : k < ys.length * sz) : ∃ i j y c, k = i * sz + j ∧ ys[i]? = some y ∧ y.cells[j]? = some c := by
  have hsz : 0 < sz := by rcases Nat.eq_zero_or_pos sz with h | h; · subst h; simp at hk
                          · exact h
  have hi : k / sz < ys.length := by rw [Nat.div_lt_iff_lt_mul hsz]; exact hk
  have hj : k % sz < sz := Nat.mod_lt _ hsz
  refine ⟨k / sz, k % sz, ys[k / sz], (ys[k / sz]).cells[k % sz]'(by rw [hz _ (List.getElem_mem hi)]; exact hj), ?_, by simp [hi], by simp⟩
  rw [Nat.mul_comm]; exact (Nat.div_add_mod k sz).symm

/-- A frozen row of elements: its cells, read. -/
theorem read_row (hok : Sok S w) {sz : Nat} {ys : List AV} (hz : ∀ y ∈ ys, y.cells.length = sz) {blk off : Nat} (hr : ∀ (i j : Nat) (a c : AV), ys[i]? = some a → a.cells[j]? = some c → ∃ x, S blk (off + i * sz + j) = some x ∧ VP S c x) :
    ∃ news, News S sz ys news ∧ ∀ j v, news[j]? = some v → w.cell? ((⟨blk, off, none⟩ : Addr).add j) = some v := by
  have key : ∀ k, k < ys.length * sz → ∃ x, S blk (off + k) = some x := fun k hk => by
    obtain ⟨i, j, y, c, rfl, h1, h2⟩ := flat_idx hz hk
    obtain ⟨x, hx, _⟩ := hr i j y c h1 h2
    exact ⟨x, by rw [← Nat.add_assoc]; exact hx⟩
  refine ⟨(List.range (ys.length * sz)).map fun k => (S blk (off + k)).getD undef, ⟨by simp, fun i j y c h1 h2 => ?_, fun v hv => ?_⟩, fun j v hv => ?_⟩
  · obtain ⟨x, hx, hy⟩ := hr i j y c h1 h2
    have hj : j < sz := by rw [← hz y (List.mem_of_getElem? h1)]; exact (List.getElem?_eq_some_iff.1 h2).1
    have hlt := idx_lt (sz := sz) (List.getElem?_eq_some_iff.1 h1).1 hj
    refine ⟨x, ?_, hy⟩
    rw [Nat.add_assoc] at hx
    simp [hlt, hx]
  · simp only [List.mem_map, List.mem_range] at hv
    obtain ⟨k, hk, rfl⟩ := hv
    obtain ⟨x, hx⟩ := key k hk
    rw [hx]
    exact (hok _ _ _ hx).2
  · rw [add_plain]
    have hj : j < ys.length * sz := by have := (List.getElem?_eq_some_iff.1 hv).1; simpa using this
    obtain ⟨x, hx⟩ := key j hj
    simp [hj, hx] at hv
    subst hv
    exact (hok _ _ _ hx).1

theorem news_nil {sz : Nat} : News S sz [] [] := ⟨by simp, by simp, by simp⟩

/-- What stands behind in an append: its length and its cells. -/
theorem arg_news (hok : Sok S w) {x : AV} {v : Value} (hv : VR φ S x v) {sz' sz : Nat} {ys : List AV} (h : appElems x = some (sz', ys)) (hs : sz' = sz ∨ ys = []) :
    ∃ news, News S sz ys news ∧ (∀ y ∈ ys, y.cells.length = sz) ∧ (Builtin.lenOf v).run P w = .ok ys.length w ∧ ∀ W : World, (∀ b o, b < w.heap.size → W.cell? ⟨b, o, none⟩ = w.cell? ⟨b, o, none⟩) → (Builtin.firstCells sz ys.length v).run P W = .ok news.toArray W := by
  unfold appElems at h
  split at h
  · rename_i o s l
    cases h
    obtain ⟨A, cap, rfl, hc, hn, hz, hr⟩ := vr_sl hv
    by_cases hl : ys = []
    · subst hl
      refine ⟨[], news_nil, by simp, by simp [Builtin.lenOf], fun W _ => ?_⟩
      cases A <;> simp [Builtin.firstCells, loadCells, loadCellsFrom]
    · rcases hs with rfl | hs
      · obtain ⟨blk, off, rfl, hr2⟩ := hr hl
        obtain ⟨news, h1, h2⟩ := read_row hok hz hr2
        refine ⟨news, h1, hz, by simp [Builtin.lenOf], fun W hW => run_firstCells_some W _ _ _ _ _ news h1.len fun j u hu => ?_⟩
        have := h2 j u hu
        rw [add_plain] at this ⊢
        rw [hW blk _ ?_]
        · exact this
        · unfold World.cell? at this
          split at this
          · rename_i hh; exact heap_lt hh
          · cases this
      · exact absurd hs hl
  · rename_i s
    cases h
    cases vr_str hv
    rcases hs with rfl | hs
    · refine ⟨s.map fun b => .int .u8 b.toNat, ⟨by simp, fun i j y c h1 h2 => ?_, by simp [Value.oneCell']⟩, by simp [AV.cells], by simp [Builtin.lenOf, ByteArray.size], fun W _ => ?_⟩
      · simp only [List.getElem?_map, Option.map_eq_some_iff] at h1
        obtain ⟨b, hb, rfl⟩ := h1
        cases j with
        | zero => simp [AV.cells] at h2; subst h2; exact ⟨.int .u8 b.toNat, by simp [hb], .int _ _⟩
        | succ j => simp [AV.cells] at h2
      · have he : (⟨s.toArray⟩ : ByteArray).extract 0 s.length = ⟨s.toArray⟩ := by
          apply ByteArray.ext; simp
        simp [Builtin.firstCells, he]
    · have hs0 : s = [] := by simpa using hs
      subst hs0
      exact ⟨[], news_nil, by simp, by simp [Builtin.lenOf, ByteArray.size], fun W _ => by simp [Builtin.firstCells]⟩
  · cases h

theorem appArg_of {T : TypeId} (h : appArg P T = true) : (∃ e, P.underlying T = some (.slice e)) ∨ P.underlying T = some .string := by
  unfold appArg at h
  split at h
  · rename_i e hx; exact .inl ⟨e, hx⟩
  · rename_i hx; exact .inr hx
  · cases h
theorem append_none {T T' ty e : TypeId} {i : TypeInfo} {xv : Value} (hT' : appArg P T' = true) (hu : P.underlying T = some (.slice e)) (hi : P.info? e = some i) (hl : (Builtin.lenOf xv).run P w = .ok 0 w) (hf : (Builtin.firstCells i.size 0 xv).run P w = .ok #[] w) :
    (Builtin.append_ #[T, T'] ty #[.slice none 0 0, xv]).run P w = .ok (.slice none 0 0) w := by
  rcases appArg_of hT' with ⟨e', hu'⟩ | hu'
  · simp [Builtin.append_, run_underlying hu, run_underlying hu', sizeOf, typeInfo, hi, hl, hf]
  · simp [Builtin.append_, run_underlying hu, run_underlying hu', sizeOf, typeInfo, hi, hl, hf]
theorem append_room {T T' ty e : TypeId} {i : TypeInfo} {xv : Value} {a : Addr} {sLen m cap : Nat} {news : Array Value} {w' : World} (hT' : appArg P T' = true) (hu : P.underlying T = some (.slice e)) (hi : P.info? e = some i) (hl : (Builtin.lenOf xv).run P w = .ok m w)
    (hf : (Builtin.firstCells i.size m xv).run P w = .ok news w) (hroom : sLen + m ≤ cap) (hst : (storeCells (a.add (sLen * i.size)) news.toList).run P w = .ok () w') :
    (Builtin.append_ #[T, T'] ty #[.slice (some a) sLen cap, xv]).run P w = .ok (.slice (some a) (sLen + m) cap) w' := by
  rcases appArg_of hT' with ⟨e', hu'⟩ | hu'
  · simp [Builtin.append_, run_underlying hu, run_underlying hu', sizeOf, typeInfo, hi, hl, hf, hroom, hst]
  · simp [Builtin.append_, run_underlying hu, run_underlying hu', sizeOf, typeInfo, hi, hl, hf, hroom, hst]
theorem append_grow {T T' ty e : TypeId} {i : TypeInfo} {z xv : Value} {A : Option Addr} {sLen m cap : Nat} {olds news : Array Value} (hT' : appArg P T' = true) (hu : P.underlying T = some (.slice e)) (hi : P.info? e = some i) (hz : i.zero = some z) (hl : (Builtin.lenOf xv).run P w = .ok m w)
    (hroom : ¬ (sLen + m ≤ cap)) (h63 : ¬ (9223372036854775807 < ((sLen : Int) + (m : Int)))) (h48 : ¬ (281474976710656 < Builtin.nextslicecap (sLen + m) cap * i.bytes))
    (ho : (Builtin.firstCells i.size sLen (.slice A sLen cap)).run P w.drew = .ok olds w.drew) (hf : (Builtin.firstCells i.size m xv).run P w.drew = .ok news w.drew) :
    (Builtin.append_ #[T, T'] ty #[.slice A sLen cap, xv]).run P w = .ok (.slice (some ⟨w.heap.size, 0, none⟩) (sLen + m) (grownCap w (sLen + m) cap e)) ((w.drew).alloc (.cells (olds ++ news ++ Builtin.zeroCells z.cells (grownCap w (sLen + m) cap e - (sLen + m))) e)) := by
  rcases appArg_of hT' with ⟨e', hu'⟩ | hu'
  · simp [Builtin.append_, run_underlying hu, run_underlying hu', sizeOf, typeInfo, zeroValue, hi, hz, hl, hroom, h63, h48, Question.forced, ho, hf, newRow, grownCap]
  · simp [Builtin.append_, run_underlying hu, run_underlying hu', sizeOf, typeInfo, zeroValue, hi, hz, hl, hroom, h63, h48, Question.forced, ho, hf, newRow, grownCap]

/-- What an append leaves. -/
structure Appended (φ : List Nat) (S : Frz) (w : World) (sz : SlT) (l ys : List AV) (sv v' : Value) (w' : World) (S' : Frz) : Prop where
  le : S.le S'
  ok : Sok S' w'
  vp : VP S' (.sl .yes sz (l ++ ys)) v'
  own : Own1 φ S' w' sz (l ++ ys).length v'
  how : (Longer w w' ∧ (∀ k o v, S' k o = some v → S k o = some v ∨ w.heap.size ≤ k) ∧ ∀ g, blkOf v' = some g → w.heap.size ≤ g) ∨
    ∃ g o, blkOf sv = some g ∧ blkOf v' = some g ∧ w' = setObjAt w g o ∧ ∀ k o v, S' k o = some v → S k o = some v ∨ k = g

theorem append_run (hok : Sok S w) (hfi : ∀ (i k : Nat), φ[i]? = some k → k < w.heap.size) {T T' ty : TypeId} {sz : SlT} {l ys : List AV} {o : Ow} {sv xv : Value} (hT : appTy P T = some sz) (hT' : appArg P T' = true) (hlen : l.length + ys.length ≤ lenLim)
    (hs : VR φ S (.sl o sz l) sv) (hown : Own1 φ S w sz l.length sv) {news : List Value} (hn : News S sz ys news) (hyz : ∀ y ∈ ys, y.cells.length = sz) (hl : (Builtin.lenOf xv).run P w = .ok ys.length w)
    (hf : ∀ W : World, (∀ b o, b < w.heap.size → W.cell? ⟨b, o, none⟩ = w.cell? ⟨b, o, none⟩) → (Builtin.firstCells sz ys.length xv).run P W = .ok news.toArray W) :
    ∃ v' w' S', (Builtin.append_ #[T, T'] ty #[sv, xv]).run P w = .ok v' w' ∧ Appended φ S w sz l ys sv v' w' S' := by
  obtain ⟨e, i, z, hu, hi, hz, hzs, his, hse, hib⟩ := appTy_of hT
  obtain ⟨A, cap, rfl, hc, _, hlz, hr⟩ := vr_sl hs
  by_cases hroom : l.length + ys.length ≤ cap
  · cases A with
    | none =>
      have hcap : cap = 0 := hown
      have hl0 : l = [] := List.eq_nil_of_length_eq_zero (by omega)
      have hy0 : ys = [] := List.eq_nil_of_length_eq_zero (by omega)
      subst hcap; subst hl0; subst hy0
      have hnn : news = [] := List.eq_nil_of_length_eq_zero (by simpa using hn.len)
      subst hnn
      have hf0 := hf w (fun _ _ _ => rfl)
      refine ⟨.slice none 0 0, w, S, ?_, ⟨fun _ _ _ h => h, hok, .sl0 _ _ _ _ (by simp), rfl, .inl ⟨Longer.refl w, fun _ _ _ h => .inl h, fun g hg => by cases hg⟩⟩⟩
      exact append_none hT' hu hi hl (by rw [his]; exact hf0)
    | some a =>
      obtain ⟨ha, hag, ⟨cur, fr, hg, hcs, hfr⟩, hfree⟩ := hown
      have hsz2 : (l.length + ys.length) * sz ≤ cur.size := by rw [hcs]; exact Nat.mul_le_mul_right _ hroom
      have hadd : l.length * sz + ys.length * sz = (l.length + ys.length) * sz := by rw [Nat.add_mul]
      have hst := store_row (P := P) (g := a.block) (o := l.length * sz) (T := sz.e) (fr := fr) news 0 cur w hg (by rw [hn.len]; omega) hn.one (fun j h1 h2 => by rw [hn.len] at h2; omega)
      simp only [Nat.add_zero] at hst
      have hf0 := hf w (fun _ _ _ => rfl)
      have haa : a.add (l.length * sz) = ⟨a.block, l.length * sz, none⟩ := by rw [ha, add_plain]; simp
      have hlt := heap_lt hg
      let new : Array Value := (cur.toList.take (l.length * sz) ++ news ++ cur.toList.drop (l.length * sz + news.length)).toArray
      have hat : (setObjAt w a.block (.cells new sz.e fr)).heap[a.block]? = some (.cells new sz.e fr) := setObjAt_at hlt
      have hnsz : new.size = cur.size := by simp [new, hn.len]; omega
      have htk : (cur.toList.take (l.length * sz)).length = l.length * sz := by simp; omega
      have hget : ∀ j, j < l.length * sz → new[j]? = cur[j]? := fun j hj => by
        simp only [new, List.getElem?_toArray, List.append_assoc]
        rw [List.getElem?_append_left (by rw [htk]; exact hj), List.getElem?_take, if_pos hj]
        simp
      have hget2 : ∀ j, j < news.length → new[l.length * sz + j]? = news[j]? := fun j hj => by
        simp only [new, List.getElem?_toArray, List.append_assoc]
        rw [List.getElem?_append_right (by rw [htk]; omega), htk, List.getElem?_append_left (by omega)]
        congr 1
        omega
      let S' : Frz := fun b o => if b = a.block ∧ l.length * sz ≤ o ∧ o < (l.length + ys.length) * sz then news[o - l.length * sz]? else S b o
      have hle : S.le S' := fun b o v h => by
        have : ¬ (b = a.block ∧ l.length * sz ≤ o ∧ o < (l.length + ys.length) * sz) := fun ⟨e1, e2, _⟩ => by
          subst e1; rw [hfree o e2] at h; cases h
        show (if _ then _ else _) = _
        rw [if_neg this]
        exact h
      refine ⟨.slice (some a) (l.length + ys.length) cap, setObjAt w a.block (.cells new sz.e fr), S', ?_, ⟨hle, ⟨fun b o v h => ?_, hok.tab_of hle fun g2 _ => ?_⟩, ?_, ?_, .inr ⟨a.block, _, rfl, rfl, rfl, fun k o v h => ?_⟩⟩⟩
      · exact append_room hT' hu hi hl (by rw [his]; exact hf0) hroom (by rw [his, haa]; exact hst)
      · change (if _ then _ else _) = _ at h
        split at h
        · rename_i hc'
          obtain ⟨rfl, h1, h2⟩ := hc'
          have hj : o - l.length * sz < news.length := by rw [hn.len]; omega
          refine ⟨(cell_heap hat).trans ?_, hn.one v (List.mem_of_getElem? h)⟩
          have := hget2 (o - l.length * sz) hj
          rw [show l.length * sz + (o - l.length * sz) = o by omega] at this
          rw [this]; exact h
        · obtain ⟨h1, h2⟩ := hok b o v h
          refine ⟨?_, h2⟩
          by_cases hb : b = a.block
          · subst hb
            have ho : o < l.length * sz := by
              rcases Nat.lt_or_ge o (l.length * sz) with h3 | h3
              · exact h3
              · rw [hfree o h3] at h; cases h
            rw [cell_heap hat, hget o ho, ← cell_heap hg]
            exact h1
          · rw [cell_same (setObjAt_other hb)]; exact h1
      · by_cases e : g2 = a.block
        · subst e
          refine .inr fun cs T fr0 h1 => ?_
          rw [hg] at h1; cases h1
          exact ⟨_, _, _, hat, hnsz⟩
        · exact .inl (setObjAt_other e)
      · have hvp : VP S' (.sl .yes sz (l ++ ys)) (.slice (some ⟨a.block, 0, none⟩) (l ++ ys).length cap) := by
          refine vp_sl .yes (by simp) (by simpa using hroom) (fun y hy => (List.mem_append.1 hy).elim (hlz y) (hyz y)) fun i j x c hx hcj => ?_
          have hj : j < sz := by
            have := (List.mem_append.1 (List.mem_of_getElem? hx)).elim (hlz x) (hyz x)
            rw [← this]; exact (List.getElem?_eq_some_iff.1 hcj).1
          rw [Nat.zero_add]
          by_cases hil : i < l.length
          · rw [List.getElem?_append_left hil] at hx
            obtain ⟨blk, off, hA, hr2⟩ := hr (by intro e; subst e; simp at hil)
            rw [ha] at hA
            cases hA
            obtain ⟨v, h1, h2⟩ := hr2 i j x c hx hcj
            rw [Nat.zero_add] at h1
            exact ⟨v, hle _ _ _ h1, h2.mono hle⟩
          · rw [List.getElem?_append_right (by omega)] at hx
            obtain ⟨v, h1, h2⟩ := hn.at_ (i - l.length) j x c hx hcj
            have hii : i - l.length < ys.length := (List.getElem?_eq_some_iff.1 hx).1
            have hlt2 := idx_lt (sz := sz) hii hj
            have e1 : i * sz = l.length * sz + (i - l.length) * sz := by rw [← Nat.add_mul]; congr 1; omega
            refine ⟨v, ?_, h2.mono hle⟩
            show (if _ then _ else _) = _
            rw [if_pos ⟨rfl, by omega, by omega⟩]
            rw [show i * sz + j - l.length * sz = (i - l.length) * sz + j by omega]
            exact h1
        rw [List.length_append] at hvp
        rw [ha]; exact hvp
      · refine ⟨ha, hag, ⟨new, fr, hat, by rw [hnsz, hcs], ?_⟩, fun j hj => ?_⟩
        · rw [List.length_append, ← hadd, hnsz]; omega
        · rw [List.length_append] at hj
          show (if _ then _ else _) = _
          rw [if_neg (by omega)]
          exact hfree j (by omega)
      · change (if _ then _ else _) = _ at h
        split at h
        · rename_i hc'; exact .inr hc'.1
        · exact .inl h
  · have hneed : cap < l.length + ys.length := by omega
    have h63 : ¬ (9223372036854775807 < ((l.length : Int) + (ys.length : Int))) := by unfold lenLim at hlen; omega
    have hbytes : (l.length + ys.length) * i.bytes ≤ 140737488355328 := Nat.le_trans (Nat.mul_le_mul hlen hib) (by unfold lenLim byteLim; omega)
    have h48 := growslice_fits hneed hbytes
    have h48' : ¬ (281474976710656 < Builtin.nextslicecap (l.length + ys.length) cap * i.bytes) := by omega
    obtain ⟨olds, ho, hor⟩ : ∃ olds : List Value, News S sz l olds ∧ ∀ W : World, (∀ b o, b < w.heap.size → W.cell? ⟨b, o, none⟩ = w.cell? ⟨b, o, none⟩) → (Builtin.firstCells sz l.length (.slice A l.length cap)).run P W = .ok olds.toArray W := by
      obtain ⟨olds, h1, _, _, h2⟩ := arg_news (P := P) hok hs (sz' := sz) (sz := sz) (ys := l) rfl (.inl rfl)
      exact ⟨olds, h1, h2⟩
    let nc := grownCap w (l.length + ys.length) cap e
    have hnc : l.length + ys.length ≤ nc := grownCap_ge w _ _ _
    let cs : Array Value := olds.toArray ++ news.toArray ++ Builtin.zeroCells z.cells (nc - (l.length + ys.length))
    have hcs : cs.size = nc * sz := by
      simp only [cs, Array.size_append, List.size_toArray, ho.len, hn.len, size_zeroCells, hzs]
      rw [← Nat.add_mul, ← Nat.add_mul]
      congr 1
      omega
    have hW : ∀ b o, b < w.heap.size → (w.drew).cell? ⟨b, o, none⟩ = w.cell? ⟨b, o, none⟩ := fun _ _ _ => rfl
    have hrun : (Builtin.append_ #[T, T'] ty #[.slice A l.length cap, xv]).run P w = .ok (.slice (some ⟨w.heap.size, 0, none⟩) (l.length + ys.length) nc) ((w.drew).alloc (.cells cs e)) := by
      exact append_grow hT' hu hi hz hl hroom h63 h48' (by rw [his]; exact hor w.drew hW) (by rw [his]; exact hf w.drew hW)
    have hlong : Longer w ((w.drew).alloc (.cells cs e)) := by
      have := alloc_longer w.drew (.cells cs e)
      exact ⟨this.os, this.tape, this.output, this.size, this.heap⟩
    have hl2 : (l ++ ys).length = l.length + ys.length := List.length_append
    have hol : olds.length = l.length * sz := ho.len
    obtain ⟨S', g1, g2, g3, g4, g5⟩ := row_new (φ := φ) (S := S) (w := w) (av := .sl .yes sz (l ++ ys)) (l := l ++ ys) (sz := sz) (cap := nc) (cs := cs) (fr := (0, 0)) .yes (by simp) rfl hok hfi hlong (by
        rw [hse]
        show (w.heap.push _)[w.heap.size]? = _
        rw [Array.getElem?_push, if_pos rfl]) hcs (by rw [hl2]; exact hnc) (by simp) (fun y hy => (List.mem_append.1 hy).elim (hlz y) (hyz y))
      (fun i j x c hx hcj => by
        have hj : j < sz := by
          have := (List.mem_append.1 (List.mem_of_getElem? hx)).elim (hlz x) (hyz x)
          rw [← this]; exact (List.getElem?_eq_some_iff.1 hcj).1
        have hcl : cs.toList = olds ++ news ++ (Builtin.zeroCells z.cells (nc - (l.length + ys.length))).toList := by simp [cs]
        have hq : ∀ k, cs[k]? = cs.toList[k]? := fun k => by rw [Array.getElem?_toList]
        by_cases hil : i < l.length
        · rw [List.getElem?_append_left hil] at hx
          obtain ⟨v, h1, h2⟩ := ho.at_ i j x c hx hcj
          refine ⟨v, ?_, h2⟩
          have := idx_lt (sz := sz) hil hj
          rw [hq, hcl, List.append_assoc, List.getElem?_append_left (by rw [hol]; exact this)]
          exact h1
        · rw [List.getElem?_append_right (by omega)] at hx
          obtain ⟨v, h1, h2⟩ := hn.at_ (i - l.length) j x c hx hcj
          refine ⟨v, ?_, h2⟩
          have hii : i - l.length < ys.length := (List.getElem?_eq_some_iff.1 hx).1
          have hlt2 := idx_lt (sz := sz) hii hj
          have e1 : i * sz = l.length * sz + (i - l.length) * sz := by rw [← Nat.add_mul]; congr 1; omega
          rw [hq, hcl, List.append_assoc, List.getElem?_append_right (by rw [hol]; omega), hol, List.getElem?_append_left (by rw [hn.len]; omega)]
          rw [show i * sz + j - l.length * sz = (i - l.length) * sz + j by omega]
          exact h1)
      (fun k v hk hv => by
        have hcl : cs.toList = olds ++ news ++ (Builtin.zeroCells z.cells (nc - (l.length + ys.length))).toList := by simp [cs]
        have hq : cs[k]? = (olds ++ news ++ (Builtin.zeroCells z.cells (nc - (l.length + ys.length))).toList)[k]? := by rw [← Array.getElem?_toList, hcl]
        rw [hl2, Nat.add_mul, ← ho.len, ← hn.len] at hk
        rw [hq, List.getElem?_append_left (by simpa using hk)] at hv
        rcases List.mem_append.1 (List.mem_of_getElem? hv) with hm | hm
        · exact ho.one v hm
        · exact hn.one v hm)
    rw [hl2] at g4 g5
    obtain ⟨g6, g7⟩ := g5 sz (l ++ ys) rfl
    exact ⟨_, _, S', hrun, ⟨g1, g3, g4, g6, .inl ⟨hlong, g2, g7⟩⟩⟩
end
end Go.Pv
/- One operation, third part: appends within the relation. -/
namespace Go.Pv
open Go

section
variable {P : Program} {n : Nat} {w0 : World} {S0 : Frz} {T0 : Nat → Prop} {φ : List Nat} {S : Frz} {env : Env} {σ : List Blk} {tm : Array Value} {w : World}

/-- An array that nobody else may append to is written. -/
theorem Rel.touchArr (h : Rel n w0 S0 T0 φ S env σ tm w) {g : Nat} {o : Obj} {S' : Frz} (hg : g < w.heap.size) (hgφ : g ∉ φ) (hgT : T0 g ∨ w0.heap.size ≤ g)
    (hno : ∀ hd sz l, haA env σ hd = .sl .yes sz l → blkOf (haV φ tm w hd) ≠ some g) (hle : S.le S') (hmore : ∀ k o v, S' k o = some v → S k o = some v ∨ k = g) (hok : Sok S' (setObjAt w g o)) :
    Rel n w0 S0 T0 φ S' env σ tm (setObjAt w g o) := by
  have hoth : ∀ j, j ≠ g → (setObjAt w g o).heap[j]? = w.heap[j]? := fun j hj => setObjAt_other hj
  have hnone : ∀ k j, k ≠ g → S k j = none → S' k j = none := fun k j hk hn => by
    cases hs : S' k j with
    | none => rfl
    | some v => rcases hmore k j v hs with h1 | h1
                · rw [hn] at h1; cases h1
                · exact absurd h1 hk
  have hφ : ∀ (i k : Nat), φ[i]? = some k → k ≠ g := fun i k hk e => hgφ (by rw [← e]; exact List.mem_of_getElem? hk)
  have hv : ∀ hd, haV φ tm (setObjAt w g o) hd = haV φ tm w hd := fun hd => haV_same hd fun i off k _ hk => hoth k (hφ i k hk)
  refine ⟨hok, ?_, h.size, fun t => (h.vals t).mono hle (fun _ _ h => h), h.nodup, h.len, ?_, ?_, h.inT, ?_, ?_, ?_⟩
  · refine h.evo.trans (T' := fun x => x = g) ⟨rfl, rfl, rfl, by simp [setObjAt], fun k _ hk => hoth k hk, hle, fun k o v hv => (hmore k o v hv).imp id .inr⟩ ?_
    intro k hk; subst hk; exact hgT
  · intro i k b hb hk
    exact (h.blk i k b hb hk).mono hle (fun _ _ h => h) (hoth k (hφ i k hk))
  · intro i k hk o'
    exact hnone k o' (hφ i k hk) (h.free i k hk o')
  · intro hd sz l ha
    rw [hv hd]
    refine (h.own hd sz l ha).carry fun g' hg' => ?_
    have hne : g' ≠ g := fun e => hno hd sz l ha (by rw [← e]; exact hg')
    exact ⟨hoth g' hne, fun j => hnone g' j hne⟩
  · intro hd sz l g' ha hg'
    rw [hv hd] at hg'
    exact h.ownT hd sz l g' ha hg'
  · intro hd hd' sz l sz' l' g' hne ha ha' hg'
    rw [hv hd] at hg'
    rw [hv hd']
    exact h.apart hd hd' sz l sz' l' g' hne ha ha' hg'

theorem Rel.appended (h : Rel n w0 S0 T0 φ S env σ tm w) {sz : SlT} {l ys : List AV} {sv v' : Value} {w' : World} {S' : Frz} (hown : Own1 φ S w sz l.length sv)
    (hT : ∀ g, blkOf sv = some g → (T0 g ∨ w0.heap.size ≤ g) ∧ ∀ hd sz l, haA env σ hd = .sl .yes sz l → blkOf (haV φ tm w hd) ≠ some g) (ha : Appended φ S w sz l ys sv v' w' S') {al : Nat → Option Src} (hal : AlRel φ al tm w) :
    Rel n w0 S0 T0 φ S' env σ tm w' ∧ AlRel φ al tm w' ∧ ∀ g, blkOf v' = some g → (T0 g ∨ w0.heap.size ≤ g) ∧ ∀ hd sz l, haA env σ hd = .sl .yes sz l → blkOf (haV φ tm w' hd) ≠ some g := by
  rcases ha.how with ⟨h1, h2, h3⟩ | ⟨g, o, h1, h2, rfl, h4⟩
  · have hR := h.grow h1 ha.le h2 ha.ok
    refine ⟨hR, hal.longer (fun _ _ h => h) fun b k hk => h1.heap k (h.fi_lt hk), fun g hg => ⟨.inr (Nat.le_trans h.evo.size (h3 g hg)), fun hd sz' l' hy hb => ?_⟩⟩
    have hv : haV φ tm w' hd = haV φ tm w hd := haV_same hd fun i off k _ hk => h1.heap k (h.fi_lt hk)
    rw [hv] at hb
    have := (h.own hd sz' l' hy).lt hb
    have := h3 g hg
    omega
  · have hg := hown.lt h1
    have hgφ := hown.notin h1
    obtain ⟨t1, t2⟩ := hT g h1
    have hR := h.touchArr (o := o) hg hgφ t1 t2 ha.le h4 ha.ok
    have hφ : ∀ (i k : Nat), φ[i]? = some k → (setObjAt w g o).heap[k]? = w.heap[k]? := fun i k hk => setObjAt_other fun e => hgφ (by rw [← e]; exact List.mem_of_getElem? hk)
    refine ⟨hR, hal.longer (fun _ _ h => h) hφ, fun g' hg' => ?_⟩
    rw [h2] at hg'
    cases hg'
    refine ⟨t1, fun hd sz' l' hy => ?_⟩
    have hv : haV φ tm (setObjAt w g o) hd = haV φ tm w hd := haV_same hd fun i off k _ hk => hφ i k hk
    rw [hv]
    exact t2 hd sz' l' hy

theorem haA_forget {t : Nat} {hd : Hold} {sz : SlT} {l : List AV} (h : haA (upd env t (weak (env t))) σ hd = .sl .yes sz l) : haA env σ hd = .sl .yes sz l ∧ hd ≠ .tmp t := by
  cases hd with
  | tmp u =>
    simp only [haA, upd] at h ⊢
    split at h
    · exact absurd h (weak_no _ _ _)
    · rename_i hne; exact ⟨h, fun e => hne (by cases e; rfl)⟩
  | cell i off => exact ⟨h, by simp⟩

/-- The right of a cell is given up. -/
theorem Rel.weakCell (h : Rel n w0 S0 T0 φ S env σ tm w) {b off : Nat} {sz : SlT} {cs l : List AV} (hb : cellsAt σ b = some cs) (hc : cs[off]? = some (.sl .yes sz l)) :
    Rel n w0 S0 T0 φ S env (setB σ b (cs.set off (.sl .no sz l))) tm w ∧ ∀ hd sz' l', haA env (setB σ b (cs.set off (.sl .no sz l))) hd = .sl .yes sz' l' → haA env σ hd = .sl .yes sz' l' ∧ hd ≠ .cell b off := by
  obtain ⟨T1, hσ⟩ := cellsAt_some hb
  have hset : ∀ cs', setB σ b cs' = σ.set b (.cells T1 cs') := fun cs' => by simp [setB, hσ]
  rw [hset]
  have hlt : b < σ.length := (List.getElem?_eq_some_iff.1 hσ).1
  have hA : ∀ hd sz' l', haA env (σ.set b (.cells T1 (cs.set off (.sl .no sz l)))) hd = .sl .yes sz' l' → haA env σ hd = .sl .yes sz' l' ∧ hd ≠ .cell b off := fun hd sz' l' ha => by
    cases hd with
    | tmp t => exact ⟨ha, by simp⟩
    | cell i o' =>
      simp only [haA] at ha ⊢
      by_cases hi : i = b
      · subst hi
        have e1 : cellsAt (σ.set i (.cells T1 (cs.set off (.sl .no sz l)))) i = some (cs.set off (.sl .no sz l)) := by
          unfold cellsAt; rw [List.getElem?_set_self hlt]
        simp only [cellAt, e1, hb] at ha ⊢
        by_cases ho : o' = off
        · subst ho
          have hol := (List.getElem?_eq_some_iff.1 hc).1
          rw [List.getElem?_set_self hol] at ha
          cases ha
        · rw [List.getElem?_set_ne (Ne.symm ho)] at ha
          exact ⟨ha, fun e => ho (by cases e; rfl)⟩
      · have e1 : cellsAt (σ.set b (.cells T1 (cs.set off (.sl .no sz l)))) i = cellsAt σ i := by
          unfold cellsAt; rw [List.getElem?_set_ne (Ne.symm hi)]
        simp only [cellAt, e1] at ha ⊢
        exact ⟨ha, fun e => hi (by cases e; rfl)⟩
  refine ⟨⟨h.sok, h.evo, h.size, h.vals, h.nodup, by simp [h.len], ?_, h.free, h.inT, fun hd sz' l' ha => h.own hd sz' l' (hA _ _ _ ha).1, fun hd sz' l' g ha => h.ownT hd sz' l' g (hA _ _ _ ha).1,
    fun hd hd' sz1 l1 sz2 l2 g hne ha ha' => h.apart hd hd' sz1 l1 sz2 l2 g hne (hA _ _ _ ha).1 (hA _ _ _ ha').1⟩, hA⟩
  intro i k c hci hk
  by_cases hi : i = b
  · subst hi
    rw [List.getElem?_set_self hlt] at hci
    cases hci
    obtain ⟨vs, h1, ⟨h2, h3⟩, h4⟩ := h.blk i k _ hσ hk
    refine ⟨vs, h1, ⟨by simp [h2], fun j c v hcj hv => ?_⟩, h4⟩
    by_cases hj : j = off
    · subst hj
      rw [List.getElem?_set_self (List.getElem?_eq_some_iff.1 hc).1] at hcj
      cases hcj
      have := h3 j _ v hc hv
      simp only [R1, R0] at this ⊢
      exact this.own (by simp)
    · rw [List.getElem?_set_ne (Ne.symm hj)] at hcj
      exact h3 j c v hcj hv
  · rw [List.getElem?_set_ne (Ne.symm hi)] at hci
    exact h.blk i k c hci hk

/-- The end of an append, whoever gave up the right. -/
theorem append_end {o : Oper} {a : Act} {s1 : St} {T T' : TypeId} {x y : Operand} {sz : SlT} {sz' : Nat} {l ys : List AV} {ow : Ow} (hop : ∃ ts, o.op = .call { callee := .builtin .append, args := #[x, y], argTypes := ts } ∧ ts = #[T, T']) {env0 : Env} {K : St → Prop} {next : Act → World → Prop} {Q : Exit → Act → World → Prop}
    (hd : ∀ d, o.dst = some d → d < n) (hap : appArg P T' = true) (hto : appendTo P T sz l ys) (hsz : sz' = sz ∨ ys = []) (hy : VR φ S (ev P env0 T' y) (a.eval y)) (hel : appElems (ev P env0 T' y) = some (sz', ys))
    (h : K (s1.put o.dst (.sl .yes sz (l ++ ys)) none)) (hR : Rel n w0 S0 T0 φ S s1.env s1.st a.tmps w) (hA : AlRel φ s1.al a.tmps w) (hs : VR φ S (.sl ow sz l) (a.eval x)) (hown : Own1 φ S w sz l.length (a.eval x))
    (hT : ∀ g, blkOf (a.eval x) = some g → (T0 g ∨ w0.heap.size ≤ g) ∧ ∀ hd sz l, haA s1.env s1.st hd = .sl .yes sz l → blkOf (haV φ a.tmps w hd) ≠ some g)
    (hdf : a.defers = []) (hK : NextOk n w0 S0 T0 φ K next) : o.wp P a w next Q := by
  obtain ⟨ts, hop, rfl⟩ := hop
  obtain ⟨news, n1, n2, n3, n4⟩ := arg_news (P := P) hR.sok hy hel hsz
  have hfi : ∀ (i k : Nat), φ[i]? = some k → k < w.heap.size := fun i k hk => hR.fi_lt hk
  obtain ⟨v', w', S', hrun, happ⟩ := append_run (P := P) (φ := φ) (T := T) (T' := T') (ty := o.type) hR.sok hfi hto.1 hap hto.2 hs hown n1 n2 n3 n4
  refine wp_value (v := v') (w' := w') (by simp [execOp, hop, resolve, invoke, builtin, hrun]) ?_
  obtain ⟨r1, r2, r3⟩ := hR.appended hown hT happ hA
  obtain ⟨q1, q2, q3⟩ := put_rel (s := s1) (a := a) hd r1 r2 happ.vp.vr (r := none) (fun sz' l' e => by
    cases e
    exact ⟨happ.own, fun g hg => ⟨(r3 g hg).1, fun hd' sz' l' _ => (r3 g hg).2 hd' sz' l'⟩⟩) (fun x e => by cases e)
  exact hK _ _ _ _ _ h (fun _ _ h => h) q1 q2 (by rw [q3, hdf])

theorem step_append {o : Oper} {a : Act} {s : St} {T T' : TypeId} {x y : Operand} (hop : ∃ ts, o.op = .call { callee := .builtin .append, args := #[x, y], argTypes := ts } ∧ ts = #[T, T']) {K : St → Prop} {next : Act → World → Prop} {Q : Exit → Act → World → Prop}
    (hd : ∀ d, o.dst = some d → d < n) (hap : appArg P T' = true) (h : appendW P T x (appElems (ev P s.env T' y)) s o.dst K) (hR : Rel n w0 S0 T0 φ S s.env s.st a.tmps w) (hA : AlRel φ s.al a.tmps w) (hdf : a.defers = []) (hK : NextOk n w0 S0 T0 φ K next) : o.wp P a w next Q := by
  have hy := hR.evs (P := P) T' y
  unfold appendW at h
  cases hel : appElems (ev P s.env T' y) with
  | none => simp [hel] at h
  | some p =>
    obtain ⟨sz', ys⟩ := p
    simp only [hel] at h
    split at h
    · split at h
      · rename_i sz hty
        obtain ⟨h1, h2, h3⟩ := h
        exact append_end (env0 := s.env) (l := []) (ow := .no) hop hd hap h2 h1 hy hel (by simpa using h3) hR hA (VP.sl0 _ _ _ _ (by simp)).vr rfl (fun g hg => by cases hg) hdf hK
      · exact h.elim
    · rename_i m
      split at h
      · rename_i sz l hm
        obtain ⟨h1, h2, h3⟩ := h
        have hv := hR.vals m
        rw [hm] at hv
        have ho := hR.own (.tmp m) sz l hm
        refine append_end (env0 := s.env) (s1 := s.kill (.tmp m)) hop hd hap h2 h1 hy hel h3 (kill_rel hR _) (by rw [kill_al]; exact hA) hv ho (fun g hg => ⟨hR.ownT (.tmp m) sz l g hm hg, fun hd' sz2 l2 ha => ?_⟩) hdf hK
        obtain ⟨e1, e2⟩ := haA_forget ha
        exact hR.apart (.tmp m) hd' sz l sz2 l2 g (Ne.symm e2) hm e1 hg
      · rename_i sz l hm
        obtain ⟨h1, h2, h3⟩ := h
        have hv := hR.vals m
        rw [hm] at hv
        have hnil := vr_nilsl hv
        have hev : a.eval (.tmp m) = .slice none 0 0 := hnil
        exact append_end (env0 := s.env) hop hd hap h2 h1 hy hel h3 hR hA (x := .tmp m) (ow := .nil) hv (by rw [hev]; rfl) (fun g hg => by rw [hev] at hg; cases hg) hdf hK
      · split at h
        · rename_i o' hal
          split at h
          · rename_i sz l ho
            obtain ⟨h1, h2, h3⟩ := h
            have hsame : a.tmps.getD m undef = a.tmps.getD o' undef := hA m _ hal
            have hv := hR.vals o'
            rw [ho, ← hsame] at hv
            have hown := hR.own (.tmp o') sz l ho
            simp only [haV, ← hsame] at hown
            refine append_end (env0 := s.env) (s1 := s.kill (.tmp o')) (x := .tmp m) hop hd hap h2 h1 hy hel h3 (kill_rel hR _) (by rw [kill_al]; exact hA) hv hown (fun g hg => ?_) hdf hK
            have hg' : blkOf (haV φ a.tmps w (.tmp o')) = some g := by simp only [haV, ← hsame]; exact hg
            refine ⟨hR.ownT (.tmp o') sz l g ho hg', fun hd' sz2 l2 ha => ?_⟩
            obtain ⟨e1, e2⟩ := haA_forget ha
            exact hR.apart (.tmp o') hd' sz l sz2 l2 g (Ne.symm e2) ho e1 hg'
          · exact h.elim
        · rename_i b off hal
          split at h
          · rename_i cs hcs
            split at h
            · rename_i sz l hc
              obtain ⟨h1, h2, h3⟩ := h
              obtain ⟨k, hk, hcell⟩ := hA m _ hal
              have hvc : haV φ a.tmps w (.cell b off) = a.eval (.tmp m) := by
                simp only [haV, hk, hcell]; rfl
              have hac : haA s.env s.st (.cell b off) = .sl .yes sz l := by simp only [haA, cellAt, hcs, hc]; rfl
              have hown := hR.own _ _ _ hac
              rw [hvc] at hown
              obtain ⟨T1, hσ⟩ := cellsAt_some hcs
              obtain ⟨vs, g1, ⟨g2, g3⟩, g4⟩ := hR.blk b k _ hσ hk
              have hvr : VR φ S (.sl .yes sz l) (a.eval (.tmp m)) := (g3 off _ _ hc (by rw [cell_heap g1] at hcell; exact hcell)).vr
              obtain ⟨r1, r2⟩ := hR.weakCell hcs hc
              refine append_end (env0 := s.env) (s1 := { s with st := setB s.st b (cs.set off (.sl .no sz l)) }) (x := .tmp m) hop hd hap h2 h1 hy hel h3 r1 hA hvr hown (fun g hg => ?_) hdf hK
              have hg' : blkOf (haV φ a.tmps w (.cell b off)) = some g := by rw [hvc]; exact hg
              refine ⟨hR.ownT _ sz l g hac hg', fun hd' sz2 l2 ha => ?_⟩
              obtain ⟨e1, e2⟩ := r2 hd' sz2 l2 ha
              exact hR.apart _ hd' sz l sz2 l2 g (Ne.symm e2) hac e1 hg'
            · exact h.elim
          · exact h.elim
        · exact h.elim
      · exact h.elim
    · exact h.elim
end
end Go.Pv
/- A call: what it means that a callee does as told; the caller goes on. -/
namespace Go.Pv
open Go

def touch (φ : List Nat) (σ : List Blk) (w : World) (k : Nat) : Prop := k ∈ φ ∨ ∃ i off sz l, cellAt σ i off = some (.sl .yes sz l) ∧ blkOf (haV φ #[] w (.cell i off)) = some k
def retEnv (r : AV) : Env := fun t => if t = 0 then r else .undef
def callOk (P : Program) (f : Nat) : Bool := match P.funcs[f]? with
  | some fn => fn.body.isSome && !(fn.name == "runtime.NumGoroutine")
  | none => false

/-- A call comes to its end: it is entered and left, or carried out in place. -/
def Does (P : Program) (f : Nat) (vargs : Array Value) (w : World) (R : Ending → World → Prop) : Prop :=
  (callOk P f = true ∧ Calls P f vargs w R) ∨ ∃ v w', (callFunc f vargs).run P w = .ok (.value v) w' ∧ R (.returned v) w'
/-- **What it means of a call**: from any world that fits, the machine comes back with a value and a world that fit. -/
def Sound (P : Program) (G : Frz) : CallRel := fun f args σ r σ' => ∀ (φ : List Nat) (S : Frz) (w : World) (vargs : Array Value), G.le S →
  Rel 0 w S (touch φ σ w) φ S (fun _ => .undef) σ #[] w → RL (VR φ S) args vargs →
  Does P f vargs w fun e w' => ∃ v φ' S', e = .returned v ∧ FiLe φ φ' ∧ Rel 1 w S (touch φ σ w) φ' S' (retEnv r) σ' #[v] w'

section merge
variable {ids' : List Nat}
theorem mergeB_len : ∀ (ids : List Nat) (out σ : List Blk), ids.length ≤ out.length → (mergeB ids' ids out σ).length = σ.length + (out.length - ids.length)
  | [], out, σ, _ => by simp [mergeB]
  | k :: ids, [], σ, h => by simp at h
  | k :: ids, b :: out, σ, h => by
    simp only [mergeB]
    rw [mergeB_len ids out _ (by simpa using h)]
    simp
theorem mergeB_other : ∀ (ids : List Nat) (out σ : List Blk) (j : Nat), j < σ.length → j ∉ ids → (mergeB ids' ids out σ)[j]? = σ[j]?
  | [], out, σ, j, hj, _ => by simp [mergeB, List.getElem?_append_left hj]
  | k :: ids, [], σ, j, hj, hn => by simp [mergeB]
  | k :: ids, b :: out, σ, j, hj, hn => by
    simp only [mergeB]
    simp only [List.mem_cons, not_or] at hn
    rw [mergeB_other ids out _ j (by simpa using hj) hn.2, List.getElem?_set_ne (Ne.symm hn.1)]
theorem mergeB_at : ∀ (ids : List Nat) (out σ : List Blk) (i j : Nat), ids.Nodup → (∀ k ∈ ids, k < σ.length) → ids[i]? = some j → ∀ b, out[i]? = some b → (mergeB ids' ids out σ)[j]? = some (renB ids' b)
  | [], out, σ, i, j, _, _, h, b, hb => by simp at h
  | k :: ids, [], σ, i, j, _, _, h, b, hb => by simp at hb
  | k :: ids, c :: out, σ, i, j, hnd, hlt, h, b, hb => by
    simp only [mergeB]
    obtain ⟨h1, h2⟩ := List.nodup_cons.1 hnd
    cases i with
    | zero =>
      simp at h hb
      subst h; subst hb
      rw [mergeB_other ids out _ k (by simpa using hlt k (by simp)) h1, List.getElem?_set_self (hlt k (by simp))]
    | succ i =>
      exact mergeB_at ids out _ i j h2 (fun x hx => by simpa using hlt x (by simp [hx])) (by simpa using h) b (by simpa using hb)
theorem mergeB_new : ∀ (ids : List Nat) (out σ : List Blk) (i : Nat), ids.length ≤ out.length → ids.length ≤ i → ∀ b, out[i]? = some b → (mergeB ids' ids out σ)[σ.length + (i - ids.length)]? = some (renB ids' b)
  | [], out, σ, i, _, _, b, hb => by
    simp only [mergeB, List.length_nil, Nat.sub_zero]
    rw [List.getElem?_append_right (by omega)]
    simp [hb]
  | k :: ids, [], σ, i, h, _, b, hb => by simp at h
  | k :: ids, c :: out, σ, i, h, hi, b, hb => by
    simp only [mergeB]
    cases i with
    | zero => simp at hi
    | succ i =>
      have := mergeB_new ids out (σ.set k (renB ids' c)) i (by simpa using h) (by simpa using hi) b (by simpa using hb)
      simp only [List.length_set] at this
      rw [List.length_cons, show i + 1 - (ids.length + 1) = i - ids.length by omega]
      exact this
end merge

section
variable {P : Program} {n : Nat} {w0 : World} {S0 : Frz} {T0 : Nat → Prop} {φ : List Nat} {S : Frz} {env : Env} {σ : List Blk} {tm : Array Value} {w : World}

theorem ren1_yes {ks : List Nat} {x : AV} {sz : SlT} {l : List AV} (h : ren1 ks x = .sl .yes sz l) : x = .sl .yes sz l := by
  cases x with
  | sl o s m => exact h
  | ptr b off => simp only [ren1, ren0] at h; split at h <;> cases h
  | ptrOpt b off => simp only [ren1, ren0] at h; split at h <;> cases h
  | iter b => simp only [ren1, ren0] at h; split at h <;> cases h
  | _ => simp [ren1, ren0] at h
theorem ren_yes {ks : List Nat} {x : AV} {sz : SlT} {l : List AV} (h : ren ks x = .sl .yes sz l) : x = .sl .yes sz l := by
  cases x with
  | tup vs => cases h
  | agg cs => cases h
  | sl o s m => exact h
  | ptr b off => exact ren1_yes h
  | ptrOpt b off => exact ren1_yes h
  | iter b => exact ren1_yes h
  | _ => simp [ren, ren2, ren1, ren0] at h

theorem cellAt_renB {ks : List Nat} {σ' : List Blk} {i j off : Nat} {sz : SlT} {l : List AV} (h : ∀ b, σ[i]? = some b → σ'[j]? = some (renB ks b)) (hi : i < σ.length) :
    (cellAt σ' j off = some (.sl .yes sz l) → cellAt σ i off = some (.sl .yes sz l)) ∧ (cellAt σ i off = some (.sl .yes sz l) → cellAt σ' j off = some (.sl .yes sz l)) := by
  have hb : σ[i]? = some σ[i] := by simp [hi]
  have hj := h _ hb
  constructor
  · intro hc
    obtain ⟨T1, cs, h1, h2⟩ := cellAt_some hc
    rw [hj] at h1
    cases hbi : σ[i] with
    | siter s p => rw [hbi] at h1; cases h1
    | cells T0 cs0 =>
      rw [hbi] at h1
      cases h1
      simp only [List.getElem?_map, Option.map_eq_some_iff] at h2
      obtain ⟨c, h3, h4⟩ := h2
      unfold cellAt cellsAt
      rw [hb, hbi]
      simp only
      rw [h3, ren1_yes h4]
  · intro hc
    obtain ⟨T1, cs, h1, h2⟩ := cellAt_some hc
    rw [hb] at h1
    cases h1' : σ[i] with
    | siter s p => rw [h1'] at h1; cases h1
    | cells T0 cs0 =>
      rw [h1'] at h1 hj
      cases h1
      unfold cellAt cellsAt
      rw [hj]
      simp [renB, h2, ren1, ren0]

/-- The callee's side of the relation. -/
theorem Rel.handed (h : Rel n w0 S0 T0 φ S env σ tm w) {ids : List Nat} {σi : List Blk} (hnd : ids.Nodup) (hh : Pv.handed σ ids σi) :
    ∃ φi : List Nat, φi.length = ids.length ∧ (∀ (i k : Nat), ids[i]? = some k → φi[i]? = φ[k]?) ∧ (∀ (i k c : Nat), ids[i]? = some k → φ[k]? = some c → φi[i]? = some c) ∧
      Rel 0 w S (touch φi σi w) φi S (fun _ => .undef) σi #[] w ∧
      (∀ k, touch φi σi w k → T0 k ∨ w0.heap.size ≤ k) ∧
      (∀ k, touch φi σi w k → k < w.heap.size ∧ ((∃ i, i ∈ ids ∧ φ[i]? = some k) ∨ (k ∉ φ ∧ ∃ i off sz l, i ∈ ids ∧ haA env σ (.cell i off) = .sl .yes sz l ∧ blkOf (haV φ tm w (.cell i off)) = some k))) := by
  obtain ⟨hl, hh⟩ := hh
  have hlt : ∀ i k, ids[i]? = some k → ∃ c, φ[k]? = some c := fun i k hk => by
    obtain ⟨b, _, h2⟩ := hh i k hk
    exact h.fi_of h2
  let φi := ids.map fun k => φ.getD k 0
  have hφ : ∀ (i k : Nat), ids[i]? = some k → φi[i]? = φ[k]? := fun i k hk => by
    obtain ⟨c, hc⟩ := hlt i k hk
    simp [φi, hk, List.getD, hc]
  have hf : ∀ (i k c : Nat), ids[i]? = some k → φ[k]? = some c → φi[i]? = some c := fun i k c hk hc => (hφ i k hk).trans hc
  have hback : ∀ (i c : Nat), φi[i]? = some c → ∃ k, ids[i]? = some k ∧ φ[k]? = some c := fun i c hc => by
    have hi : i < ids.length := by have := (List.getElem?_eq_some_iff.1 hc).1; simpa [φi] using this
    refine ⟨ids[i], by simp [hi], ?_⟩
    rw [← hφ i ids[i] (by simp [hi])]
    exact hc
  have hA : ∀ i off sz l, cellAt σi i off = some (.sl .yes sz l) → ∃ k, ids[i]? = some k ∧ haA env σ (.cell k off) = .sl .yes sz l ∧ haV φi #[] w (.cell i off) = haV φ tm w (.cell k off) := fun i off sz l hc => by
    obtain ⟨T1, cs, h1, _⟩ := cellAt_some hc
    have hi : i < σi.length := (List.getElem?_eq_some_iff.1 h1).1
    have hi' : i < ids.length := by rw [← hl]; exact hi
    obtain ⟨b, hb1, hb2⟩ := hh i ids[i] (by simp [hi'])
    refine ⟨ids[i], by simp [hi'], ?_, ?_⟩
    · have := (cellAt_renB (ks := ids) (σ := σi) (σ' := σ) (i := i) (j := ids[i]) (off := off) (sz := sz) (l := l) (fun b' hb' => by rw [hb1] at hb'; cases hb'; exact hb2) hi).2 hc
      simp [haA, this]
    · simp only [haV]
      rw [hφ i ids[i] (by simp [hi'])]
  refine ⟨φi, by simp [φi], hφ, hf, ⟨h.sok, Evo.refl _ _ _, rfl, fun t => VR.undef, ?_, by simp [φi, hl], ?_, ?_, ?_, ?_, ?_, ?_⟩, ?_, ?_⟩
  · -- nodup
    rw [List.nodup_iff_pairwise_ne, List.pairwise_iff_getElem]
    intro i j hi hj hij e
    have hi' : i < ids.length := by simpa [φi] using hi
    have hj' : j < ids.length := by simpa [φi] using hj
    obtain ⟨k1, a1, a2⟩ := hback i φi[i] (by simp [hi])
    obtain ⟨k2, b1, b2⟩ := hback j φi[j] (by simp [hj])
    rw [← e] at b2
    have c1 := List.getElem?_eq_some_iff.1 a2
    have c2 := List.getElem?_eq_some_iff.1 b2
    obtain ⟨c1a, c1b⟩ := c1
    obtain ⟨c2a, c2b⟩ := c2
    have hk : k1 = k2 := (List.getElem_inj h.nodup).1 (c1b.trans c2b.symm)
    subst hk
    have d1 := List.getElem?_eq_some_iff.1 a1
    have d2 := List.getElem?_eq_some_iff.1 b1
    obtain ⟨d1a, d1b⟩ := d1
    obtain ⟨d2a, d2b⟩ := d2
    have := (List.getElem_inj hnd).1 (d1b.trans d2b.symm)
    omega
  · intro i c b hb hc
    obtain ⟨k, hk1, hk2⟩ := hback i c hc
    obtain ⟨b', hb1, hb2⟩ := hh i k hk1
    rw [hb] at hb1
    cases hb1
    have := h.blk k c _ hb2 hk2
    cases b with
    | cells T l =>
      obtain ⟨cs, h1, h2, h3⟩ := this
      exact ⟨cs, h1, h2.unmap fun _ _ => R1.unren hf, h3⟩
    | siter s p => exact this
  · intro i c hc o
    obtain ⟨k, hk1, hk2⟩ := hback i c hc
    exact h.free k c hk2 o
  · intro i c hc
    exact .inl (.inl (List.mem_of_getElem? hc))
  · intro hd sz l ha
    cases hd with
    | tmp t => cases ha
    | cell i off =>
      simp only [haA] at ha
      cases hc : cellAt σi i off with
      | none => simp [hc] at ha
      | some x =>
        simp [hc] at ha
        subst ha
        obtain ⟨k, hk1, hk2, hk3⟩ := hA i off sz l hc
        rw [hk3]
        have ho := h.own _ sz l hk2
        unfold Own1 at ho ⊢
        split
        · rename_i e; rw [e] at ho; exact ho
        · rename_i a x cap e
          rw [e] at ho
          refine ⟨ho.1, fun hm => ho.2.1 ?_, ho.2.2⟩
          obtain ⟨j, hj⟩ := List.getElem?_of_mem hm
          obtain ⟨k', _, hk'⟩ := hback j _ hj
          exact List.mem_of_getElem? hk'
        · trivial
  · intro hd sz l g ha hg
    cases hd with
    | tmp t => cases ha
    | cell i off =>
      simp only [haA] at ha
      cases hc : cellAt σi i off with
      | none => simp [hc] at ha
      | some x =>
        simp [hc] at ha
        subst ha
        exact .inl (.inr ⟨i, off, sz, l, hc, hg⟩)
  · intro hd hd' sz l sz' l' g hne ha ha' hg
    cases hd with
    | tmp t => cases ha
    | cell i off =>
      cases hd' with
      | tmp t => cases ha'
      | cell i' off' =>
        simp only [haA] at ha ha'
        cases hc : cellAt σi i off with
        | none => simp [hc] at ha
        | some x =>
          cases hc' : cellAt σi i' off' with
          | none => simp [hc'] at ha'
          | some x' =>
            simp [hc] at ha
            simp [hc'] at ha'
            subst ha; subst ha'
            obtain ⟨k, hk1, hk2, hk3⟩ := hA i off sz l hc
            obtain ⟨k', hk1', hk2', hk3'⟩ := hA i' off' sz' l' hc'
            rw [hk3] at hg
            rw [hk3']
            refine h.apart _ _ sz l sz' l' g (fun e => hne ?_) hk2 hk2' hg
            cases e
            have d1 := List.getElem?_eq_some_iff.1 hk1
            have d2 := List.getElem?_eq_some_iff.1 hk1'
            obtain ⟨d1a, d1b⟩ := d1
            obtain ⟨d2a, d2b⟩ := d2
            have := (List.getElem_inj hnd).1 (d1b.trans d2b.symm)
            rw [this]
  · intro k hk
    rcases hk with hk | ⟨i, off, sz, l, hc, hg⟩
    · obtain ⟨j, hj⟩ := List.getElem?_of_mem hk
      obtain ⟨k', _, hk'⟩ := hback j _ hj
      exact h.inT k' k hk'
    · obtain ⟨k', hk1, hk2, hk3⟩ := hA i off sz l hc
      rw [hk3] at hg
      exact h.ownT _ sz l k hk2 hg
  · intro k hk
    rcases hk with hk | ⟨i, off, sz, l, hc, hg⟩
    · obtain ⟨j, hj⟩ := List.getElem?_of_mem hk
      obtain ⟨k', hk', hk''⟩ := hback j _ hj
      exact ⟨h.fi_lt hk'', .inl ⟨k', List.mem_of_getElem? hk', hk''⟩⟩
    · obtain ⟨k', hk1, hk2, hk3⟩ := hA i off sz l hc
      rw [hk3] at hg
      exact ⟨(h.own _ sz l hk2).lt hg, .inr ⟨(h.own _ sz l hk2).notin hg, k', off, sz, l, List.mem_of_getElem? hk1, hk2, hg⟩⟩
end
end Go.Pv
/- A call, second part: the caller takes over what the callee leaves. -/
namespace Go.Pv
open Go

section
variable {P : Program} {n : Nat} {w0 : World} {S0 : Frz} {T0 : Nat → Prop} {φ : List Nat} {S : Frz} {env : Env} {σ : List Blk} {tm : Array Value} {w : World}

theorem backIds_lo {σ : List Blk} {ids : List Nat} {m i : Nat} (hi : i < ids.length) : (backIds σ ids m)[i]? = ids[i]? := by
  unfold backIds; rw [List.getElem?_append_left hi]
theorem backIds_hi {σ : List Blk} {ids : List Nat} {m i : Nat} (hi : ids.length ≤ i) (hm : i < m) : (backIds σ ids m)[i]? = some (σ.length + (i - ids.length)) := by
  unfold backIds
  rw [List.getElem?_append_right hi, List.getElem?_range' (by omega)]
  simp

theorem Rel.back (h : Rel n w0 S0 T0 φ S env σ tm w) {ids : List Nat} {σi σo : List Blk} {φi φ' : List Nat} {S' : Frz} {w' : World} {r : AV} {v : Value} (hnd : ids.Nodup) (hlt : ∀ k ∈ ids, k < σ.length)
    (hfl : φi.length = ids.length) (hfi : ∀ (i k : Nat), ids[i]? = some k → φi[i]? = φ[k]?)
    (hT1 : ∀ k, touch φi σi w k → T0 k ∨ w0.heap.size ≤ k)
    (hT2 : ∀ k, touch φi σi w k → k < w.heap.size ∧ ((∃ i, i ∈ ids ∧ φ[i]? = some k) ∨ (k ∉ φ ∧ ∃ i off sz l, i ∈ ids ∧ haA env σ (.cell i off) = .sl .yes sz l ∧ blkOf (haV φ tm w (.cell i off)) = some k)))
    (hle : FiLe φi φ') (hc : Rel 1 w S (touch φi σi w) φ' S' (retEnv r) σo #[v] w') (hlen : ids.length ≤ σo.length) :
    ∃ φ'' : List Nat, FiLe φ φ'' ∧ Rel n w0 S0 T0 φ'' S' env (mergeB (backIds σ ids σo.length) ids σo σ) tm w' ∧ VR φ'' S' (ren (backIds σ ids σo.length) r) v ∧
      (∀ sz l, ren (backIds σ ids σo.length) r = .sl .yes sz l → Own1 φ'' S' w' sz l.length v ∧ ∀ g, blkOf v = some g → (T0 g ∨ w0.heap.size ≤ g) ∧
        ∀ hd sz l, haA env (mergeB (backIds σ ids σo.length) ids σo σ) hd = .sl .yes sz l → blkOf (haV φ'' tm w' hd) ≠ some g) ∧
      ∀ (b k : Nat), b ∉ ids → φ[b]? = some k → w'.heap[k]? = w.heap[k]? := by
  let ids' := backIds σ ids σo.length
  let M := mergeB ids' ids σo σ
  have hφl := h.len
  have hol := hc.len
  let φ'' : List Nat := φ ++ φ'.drop ids.length
  have hfle : FiLe φ φ'' := fiLe_append _ _
  -- where the callee's blocks lie
  have hX : ∀ (i c : Nat), φ'[i]? = some c → ∃ k, ids'[i]? = some k ∧ φ''[k]? = some c := fun i c hi => by
    by_cases hil : i < ids.length
    · have h1 : ids[i]? = some ids[i] := by simp [hil]
      refine ⟨ids[i], by rw [← h1]; exact backIds_lo hil, ?_⟩
      have h2 : φi[i]? = φ[ids[i]]? := hfi i _ h1
      have h3 : i < φi.length := by omega
      have h4 : φi[i]? = some φi[i] := by simp [h3]
      have h5 := hle i _ h4
      rw [hi] at h5
      cases h5
      rw [h4] at h2
      exact hfle _ _ h2.symm
    · have him : i < σo.length := by rw [← hol]; exact (List.getElem?_eq_some_iff.1 hi).1
      refine ⟨σ.length + (i - ids.length), backIds_hi (by omega) him, ?_⟩
      show (φ ++ φ'.drop ids.length)[_]? = _
      rw [← hφl, List.getElem?_append_right (by omega), Nat.add_sub_cancel_left, List.getElem?_drop]
      rw [show ids.length + (i - ids.length) = i by omega]
      exact hi
  have hY : ∀ (j c : Nat), φ''[j]? = some c → (j < σ.length ∧ j ∉ ids ∧ φ[j]? = some c) ∨ ∃ i, ids'[i]? = some j ∧ φ'[i]? = some c := fun j c hj => by
    by_cases hjl : j < φ.length
    · have hj' : φ[j]? = some c := by rw [← List.getElem?_append_left (l₂ := φ'.drop ids.length) hjl]; exact hj
      by_cases hm : j ∈ ids
      · right
        obtain ⟨i, hi⟩ := List.getElem?_of_mem hm
        have hil := (List.getElem?_eq_some_iff.1 hi).1
        refine ⟨i, by rw [← hi]; exact backIds_lo hil, hle i c ?_⟩
        rw [hfi i j hi]; exact hj'
      · exact .inl ⟨by omega, hm, hj'⟩
    · right
      have hj' : (φ'.drop ids.length)[j - φ.length]? = some c := by rw [← List.getElem?_append_right (l₁ := φ) (by omega)]; exact hj
      rw [List.getElem?_drop] at hj'
      refine ⟨ids.length + (j - φ.length), ?_, hj'⟩
      have him : ids.length + (j - φ.length) < σo.length := by rw [← hol]; exact (List.getElem?_eq_some_iff.1 hj').1
      rw [show ids'[ids.length + (j - φ.length)]? = some (σ.length + (ids.length + (j - φ.length) - ids.length)) from backIds_hi (by omega) him]
      congr 1
      omega
  -- what M holds
  have hMl : M.length = σ.length + (σo.length - ids.length) := mergeB_len ids σo σ hlen
  have hMold : ∀ j, j < σ.length → j ∉ ids → M[j]? = σ[j]? := fun j h1 h2 => mergeB_other ids σo σ j h1 h2
  have hMat : ∀ (i j : Nat), ids'[i]? = some j → ∀ b, σo[i]? = some b → M[j]? = some (renB ids' b) := fun i j hi b hb => by
    by_cases hil : i < ids.length
    · have h1 : ids[i]? = some j := by rw [← hi]; exact (backIds_lo hil).symm
      exact mergeB_at ids σo σ i j hnd hlt h1 b hb
    · have him := (List.getElem?_eq_some_iff.1 hb).1
      have h1 : ids'[i]? = some (σ.length + (i - ids.length)) := backIds_hi (by omega) him
      rw [hi] at h1
      cases h1
      exact mergeB_new ids σo σ i hlen (by omega) b hb
  -- blocks that the callee doesn't touch
  have hZ : ∀ j c, j ∉ ids → φ[j]? = some c → ¬ touch φi σi w c := fun j c hj hc' ht => by
    rcases (hT2 c ht).2 with ⟨i, hi, hic⟩ | ⟨hn, _⟩
    · have c1 := List.getElem?_eq_some_iff.1 hc'
      have c2 := List.getElem?_eq_some_iff.1 hic
      obtain ⟨c1a, c1b⟩ := c1
      obtain ⟨c2a, c2b⟩ := c2
      have := (List.getElem_inj h.nodup).1 (c1b.trans c2b.symm)
      subst this
      exact hj hi
    · exact hn (List.mem_of_getElem? hc')
  have hsame : ∀ (j c : Nat), j ∉ ids → φ[j]? = some c → w'.heap[c]? = w.heap[c]? := fun j c hj hc' => hc.evo.heap c (h.fi_lt hc') (hZ j c hj hc')
  have hOld : ∀ hd, (∀ i off, hd = .cell i off → i < σ.length ∧ i ∉ ids) → haA env M hd = haA env σ hd ∧ haV φ'' tm w' hd = haV φ tm w hd := fun hd ho => by
    cases hd with
    | tmp t => exact ⟨rfl, rfl⟩
    | cell i off =>
      obtain ⟨h1, h2⟩ := ho i off rfl
      constructor
      · simp only [haA, cellAt, cellsAt]
        rw [hMold i h1 h2]
      · simp only [haV]
        have : φ''[i]? = φ[i]? := List.getElem?_append_left (by omega)
        rw [this]
        cases hk : φ[i]? with
        | none => rfl
        | some k => simp only [cell_same (hsame i k h2 hk) off]
  have hNew : ∀ i j off, ids'[i]? = some j → i < σo.length → ∀ sz l, haA env M (.cell j off) = .sl .yes sz l → haA (retEnv r) σo (.cell i off) = .sl .yes sz l ∧ haV φ'' tm w' (.cell j off) = haV φ' #[v] w' (.cell i off) := fun i j off hi him sz l ha => by
    constructor
    · have hca : cellAt M j off = some (.sl .yes sz l) := by
        simp only [haA] at ha
        cases hcc : cellAt M j off with
        | none => simp [hcc] at ha
        | some x => simp [hcc] at ha; rw [ha]
      have := (cellAt_renB (ks := ids') (σ := σo) (σ' := M) (i := i) (j := j) (off := off) (sz := sz) (l := l) (fun b hb => hMat i j hi b hb) him).1 hca
      simp [haA, this]
    · simp only [haV]
      have h1 : φ'[i]? = some (φ'[i]'(by omega)) := by simp [show i < φ'.length by omega]
      obtain ⟨k, hk1, hk2⟩ := hX i _ h1
      rw [hi] at hk1
      cases hk1
      rw [h1, hk2]
  have hCls : ∀ hd sz l, haA env M hd = .sl .yes sz l → (∀ i off, hd = .cell i off → i < σ.length ∧ i ∉ ids) ∨ ∃ i j off, hd = .cell j off ∧ ids'[i]? = some j ∧ i < σo.length := fun hd sz l ha => by
    cases hd with
    | tmp t => exact .inl fun i off e => by cases e
    | cell j off =>
      have hca : ∃ T cs, M[j]? = some (.cells T cs) := by
        simp only [haA] at ha
        cases hcc : cellAt M j off with
        | none => simp [hcc] at ha
        | some x =>
          obtain ⟨T1, cs, h1, _⟩ := cellAt_some hcc
          exact ⟨T1, cs, h1⟩
      obtain ⟨T1, cs, hcs⟩ := hca
      have hjM : j < M.length := (List.getElem?_eq_some_iff.1 hcs).1
      by_cases hjl : j < σ.length
      · by_cases hm : j ∈ ids
        · obtain ⟨i, hi⟩ := List.getElem?_of_mem hm
          have hil := (List.getElem?_eq_some_iff.1 hi).1
          exact .inr ⟨i, j, off, rfl, by rw [← hi]; exact backIds_lo hil, by omega⟩
        · exact .inl fun i off' e => by cases e; exact ⟨hjl, hm⟩
      · rw [hMl] at hjM
        refine .inr ⟨ids.length + (j - σ.length), j, off, rfl, ?_, by omega⟩
        rw [show ids'[ids.length + (j - σ.length)]? = some (σ.length + (ids.length + (j - σ.length) - ids.length)) from backIds_hi (by omega) (by omega)]
        congr 1
        omega
  have hOldT : ∀ hd sz l g, (∀ i off, hd = .cell i off → i < σ.length ∧ i ∉ ids) → haA env σ hd = .sl .yes sz l → blkOf (haV φ tm w hd) = some g → ¬ touch φi σi w g ∧ g < w.heap.size := fun hd sz l g ho ha hg => by
    refine ⟨fun ht => ?_, (h.own hd sz l ha).lt hg⟩
    rcases (hT2 g ht).2 with ⟨i, hi, hic⟩ | ⟨hn, i, off, sz', l', hi, hia, hib⟩
    · exact (h.own hd sz l ha).notin hg (List.mem_of_getElem? hic)
    · refine h.apart hd (.cell i off) sz l sz' l' g (fun e => ?_) ha hia hg hib
      exact (ho i off e).2 hi
  have hNewT : ∀ g, (touch φi σi w g ∨ w.heap.size ≤ g) → T0 g ∨ w0.heap.size ≤ g := fun g hg => hg.elim (hT1 g) fun hg => .inr (Nat.le_trans h.evo.size hg)
  have own' : ∀ sz m (x : Value), Own1 φ' S' w' sz m x → (∀ g, blkOf x = some g → touch φi σi w g ∨ w.heap.size ≤ g) → Own1 φ'' S' w' sz m x := fun sz m x ho hg => by
    unfold Own1 at ho ⊢
    split
    · exact ho
    · rename_i a y cap
      obtain ⟨o1, o2, o3, o4⟩ := ho
      refine ⟨o1, fun hm => ?_, o3, o4⟩
      obtain ⟨j, hj⟩ := List.getElem?_of_mem hm
      rcases hY j _ hj with ⟨j1, j2, j3⟩ | ⟨i, _, hi⟩
      · rcases hg a.block rfl with ht | ht
        · exact hZ j _ j2 j3 ht
        · have := h.fi_lt j3; omega
      · exact o2 (List.mem_of_getElem? hi)
    · trivial
  have ownOld : ∀ hd sz l, (∀ i off, hd = .cell i off → i < σ.length ∧ i ∉ ids) → haA env σ hd = .sl .yes sz l → Own1 φ'' S' w' sz l.length (haV φ tm w hd) := fun hd sz l ho ha => by
    have hown := h.own hd sz l ha
    have hT := hOldT hd sz l
    generalize haV φ tm w hd = x at hown hT
    have hcar : Own1 φ S' w' sz l.length x := hown.carry fun g hg => by
      obtain ⟨t1, t2⟩ := hT g ho ha hg
      refine ⟨hc.evo.heap g t2 t1, fun j hj => ?_⟩
      cases hs : S' g j with
      | none => rfl
      | some y =>
        rcases hc.evo.more g j y hs with e | e | e
        · rw [hj] at e; cases e
        · omega
        · exact absurd e t1
    unfold Own1 at hcar ⊢
    split
    · exact hcar
    · rename_i a y cap
      obtain ⟨o1, o2, o3, o4⟩ := hcar
      refine ⟨o1, fun hm => ?_, o3, o4⟩
      obtain ⟨t1, t2⟩ := hT a.block ho ha rfl
      obtain ⟨j, hj⟩ := List.getElem?_of_mem hm
      rcases hY j _ hj with ⟨_, _, j3⟩ | ⟨i, _, hi⟩
      · exact o2 (List.mem_of_getElem? j3)
      · rcases hc.inT i _ hi with e | e
        · exact t1 e
        · omega
    · trivial
  have hR : Rel n w0 S0 T0 φ'' S' env M tm w' := by
    refine ⟨hc.sok, h.evo.trans hc.evo hT1, h.size, fun t => (h.vals t).mono hc.evo.le hfle, ?_, ?_, ?_, ?_, ?_, ?_, ?_, ?_⟩
    · rw [List.nodup_append]
      refine ⟨h.nodup, hc.nodup.sublist (List.drop_sublist _ _), fun a ha b hb e => ?_⟩
      subst e
      obtain ⟨j, hj⟩ := List.getElem?_of_mem ha
      obtain ⟨i, hi⟩ := List.getElem?_of_mem hb
      rw [List.getElem?_drop] at hi
      have hlt := h.fi_lt hj
      rcases hc.inT _ _ hi with e | e
      · rcases (hT2 a e).2 with ⟨k, hk, hka⟩ | ⟨hn, _⟩
        · obtain ⟨q, hq⟩ := List.getElem?_of_mem hk
          have hql := (List.getElem?_eq_some_iff.1 hq).1
          have : φ'[q]? = some a := hle q a (by rw [hfi q k hq]; exact hka)
          have c1 := List.getElem?_eq_some_iff.1 this
          have c2 := List.getElem?_eq_some_iff.1 hi
          obtain ⟨c1a, c1b⟩ := c1
          obtain ⟨c2a, c2b⟩ := c2
          have := (List.getElem_inj hc.nodup).1 (c1b.trans c2b.symm)
          omega
        · exact hn ha
      · omega
    · rw [List.length_append, List.length_drop, hMl, hφl, hol]
    · intro j k b hb hk
      rcases hY j k hk with ⟨j1, j2, j3⟩ | ⟨i, hi1, hi2⟩
      · rw [hMold j j1 j2] at hb
        exact (h.blk j k b hb j3).mono hc.evo.le hfle (hsame j k j2 j3)
      · obtain ⟨b0, hb0, hbr⟩ := hc.blk_at hi2
        rw [hMat i j hi1 b0 hb0] at hb
        cases hb
        cases b0 with
        | cells T l =>
          obtain ⟨cs, g1, g2, g3⟩ := hbr
          exact ⟨cs, g1, g2.map fun _ _ => R1.ren hX, g3⟩
        | siter s p => exact hbr
    · intro j k hk o
      rcases hY j k hk with ⟨j1, j2, j3⟩ | ⟨i, hi1, hi2⟩
      · cases hs : S' k o with
        | none => rfl
        | some y =>
          rcases hc.evo.more k o y hs with e | e | e
          · rw [h.free j k j3 o] at e; cases e
          · have := h.fi_lt j3; omega
          · exact absurd e (hZ j k j2 j3)
      · exact hc.free i k hi2 o
    · intro j k hk
      rcases hY j k hk with ⟨j1, j2, j3⟩ | ⟨i, hi1, hi2⟩
      · exact h.inT j k j3
      · exact hNewT k (hc.inT i k hi2)
    · intro hd sz l ha
      rcases hCls hd sz l ha with ho | ⟨i, j, off, rfl, hi, him⟩
      · obtain ⟨h1, h2⟩ := hOld hd ho
        rw [h1] at ha
        rw [h2]
        exact ownOld hd sz l ho ha
      · obtain ⟨h1, h2⟩ := hNew i j off hi him sz l ha
        rw [h2]
        exact own' _ _ _ (hc.own _ sz l h1) fun g hg => hc.ownT _ sz l g h1 hg
    · intro hd sz l g ha hg
      rcases hCls hd sz l ha with ho | ⟨i, j, off, rfl, hi, him⟩
      · obtain ⟨h1, h2⟩ := hOld hd ho
        rw [h1] at ha
        rw [h2] at hg
        exact h.ownT hd sz l g ha hg
      · obtain ⟨h1, h2⟩ := hNew i j off hi him sz l ha
        rw [h2] at hg
        exact hNewT g (hc.ownT _ sz l g h1 hg)
    · intro hd hd' sz l sz' l' g hne ha ha' hg hg'
      rcases hCls hd sz l ha with ho | ⟨i, j, off, rfl, hi, him⟩
      · obtain ⟨h1, h2⟩ := hOld hd ho
        rw [h1] at ha
        rw [h2] at hg
        obtain ⟨t1, t2⟩ := hOldT hd sz l g ho ha hg
        rcases hCls hd' sz' l' ha' with ho' | ⟨i', j', off', rfl, hi', him'⟩
        · obtain ⟨h1', h2'⟩ := hOld hd' ho'
          rw [h1'] at ha'
          rw [h2'] at hg'
          exact h.apart hd hd' sz l sz' l' g hne ha ha' hg hg'
        · obtain ⟨h1', h2'⟩ := hNew i' j' off' hi' him' sz' l' ha'
          rw [h2'] at hg'
          rcases hc.ownT _ sz' l' g h1' hg' with e | e
          · exact t1 e
          · omega
      · obtain ⟨h1, h2⟩ := hNew i j off hi him sz l ha
        rw [h2] at hg
        rcases hCls hd' sz' l' ha' with ho' | ⟨i', j', off', rfl, hi', him'⟩
        · obtain ⟨h1', h2'⟩ := hOld hd' ho'
          rw [h1'] at ha'
          rw [h2'] at hg'
          obtain ⟨t1, t2⟩ := hOldT hd' sz' l' g ho' ha' hg'
          rcases hc.ownT _ sz l g h1 hg with e | e
          · exact t1 e
          · omega
        · obtain ⟨h1', h2'⟩ := hNew i' j' off' hi' him' sz' l' ha'
          rw [h2'] at hg'
          refine hc.apart (.cell i off) (.cell i' off') sz l sz' l' g (fun e => hne ?_) h1 h1' hg hg'
          cases e
          rw [hi] at hi'
          cases hi'
          rfl
  refine ⟨φ'', hfle, hR, (show VR φ' S' r v from hc.vals 0).ren hX, fun sz l e => ?_, hsame⟩
  have hr : r = .sl .yes sz l := ren_yes e
  have hra : haA (retEnv r) σo (.tmp 0) = .sl .yes sz l := hr
  have hrv : haV φ' #[v] w' (.tmp 0) = v := rfl
  refine ⟨?_, fun g hg => ⟨hNewT g (hc.ownT (.tmp 0) sz l g hra hg), fun hd sz' l' ha hg' => ?_⟩⟩
  · have := hc.own (.tmp 0) sz l hra
    exact own' _ _ _ this fun g hg => hc.ownT (.tmp 0) sz l g hra hg
  · rcases hCls hd sz' l' ha with ho | ⟨i, j, off, rfl, hi, him⟩
    · obtain ⟨h1, h2⟩ := hOld hd ho
      rw [h1] at ha
      rw [h2] at hg'
      obtain ⟨t1, t2⟩ := hOldT hd sz' l' g ho ha hg'
      rcases hc.ownT (.tmp 0) sz l g hra hg with e | e
      · exact t1 e
      · omega
    · obtain ⟨h1, h2⟩ := hNew i j off hi him sz' l' ha
      rw [h2] at hg'
      exact hc.apart (.tmp 0) (.cell i off) sz l sz' l' g (by simp) hra h1 hg hg'
end
end Go.Pv
