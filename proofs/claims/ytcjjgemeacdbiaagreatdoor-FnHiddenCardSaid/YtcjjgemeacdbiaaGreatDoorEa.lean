/-
 Ea: one of the texts behind a proof of laws.FnHidden: an evaluator over values that stand for the machine's, and what its steps say of the machine
 Its conditions: none of its own.
-/
import Derived.Orders
import Derived.Below
import Derived.Laws.Sem
import Derived.WalkKit
import Derived.Laws.StructEq
import Derived.Great.BuildSlice
import Derived.Laws.IdiomCopy
import Derived.Laws.Append
import Derived.Laws.AppendOwn
set_option maxRecDepth 100000
set_option linter.unusedVariables false
set_option linter.unusedSectionVars false
set_option linter.unusedSimpArgs false
set_option linter.unnecessarySimpa false
namespace Go.Ev
open Go
inductive Id where
 | v (t : Nat) | l (i : Nat) | r (t k : Nat) | h (t k : Nat)
 deriving DecidableEq
inductive AV where
 | sc (v : Value)
 | sl (e n : Nat) (xs : List AV)
 | nst (e n : Nat) (xs : List AV)
 | emp
 | own (id : Id) (sub : Option Nat) (off n cap : Nat)
 | ptr (id : Id) (sub : Option Nat) (off : Nat)
 | iptr (xs : List AV)
 | agg (cs : List AV)
 | tup (vs : List AV)
 | clo (f : FuncId) (caps : List AV)
 | junk
structure Blk where
 arr : Bool
 fr : Bool
 nest : Bool
 esz : Nat
 cells : List AV
abbrev Store := List (Id × Option Blk)
def Store.get? : Store → Id → Option Blk
 | [], _ => none
 | (j, b) :: r, i => if j = i then b else Store.get? r i
def Store.has : Store → Id → Bool
 | [], _ => false
 | (j, _) :: r, i => if j = i then true else Store.has r i
def Store.put : Store → Id → Blk → Store
 | [], i, b => [(i, some b)]
 | (j, c) :: r, i, b => if j = i then (i, some b) :: r else (j, c) :: Store.put r i b
def Store.del : Store → Id → Store
 | [], _ => []
 | (j, c) :: r, i => if j = i then (j, none) :: r else (j, c) :: Store.del r i
structure Cfg where
 P : Program
 glob : Nat → Option (List AV)
 lend : FuncId → Nat → Bool
 keep : FuncId → Bool
 inl : FuncId → Bool
 hint : FuncId → Nat → List (Nat × Option Nat)
 kn : Value → Option (Nat × List AV)
 ext : FuncId → List AV → Option AV := fun _ _ => none
def toAV : Value → AV
 | .slice none 0 0 => .emp
 | v => .sc v
def constAV : Value → AV
 | .agg cs => if cs.toList.all (·.oneCell') then .agg (cs.toList.map toAV) else .junk
 | v => toAV v
def AV.cells : AV → List AV
 | .agg cs => cs
 | x => [x]
def AV.flat : AV → Bool
 | .sc c => c.oneCell'
 | .sl .. | .emp => true
 | _ => false
def AV.one : AV → Bool
 | .sc c => c.oneCell'
 | .agg _ | .tup _ | .junk => false
 | _ => true
def AV.cellOk : AV → Bool
 | .agg _ => true
 | x => x.one
abbrev undefA : AV := .sc undef
def evOpd (G : Cfg) (ts : List AV) : Operand → AV
 | .tmp t => ts.getD t undefA
 | .const v => constAV v
 | .global g => match G.glob g with
  | some cs => .iptr cs
  | none => .junk
 | .func f => .clo f []
def szT (P : Program) (t : TypeId) : Option Nat := (P.info? t).map (·.size)
def byT (P : Program) (t : TypeId) : Option Nat := (P.info? t).map (·.bytes)
def zeroT (P : Program) (t : TypeId) : Option (List AV) := ((P.info? t).bind (·.zero)).bind fun v => if (v.cells.toList.all (·.oneCell')) = true then some (v.cells.toList.map toAV) else none
def aggT (P : Program) (t : TypeId) : Option Bool := (P.underlying t).map fun
 | .struct _ | .array _ _ => true
 | _ => false
def slT (P : Program) (t : TypeId) : Option TypeId := match P.underlying t with
 | some (.slice e) => some e
 | _ => none
def arT (P : Program) (t : TypeId) : Option (Nat × TypeId) := match P.underlying t with
 | some (.array n e) => some (n, e)
 | _ => none
def isStrT (P : Program) (t : TypeId) : Bool := match P.underlying t with
 | some .string => true
 | _ => false
def isBoolT (P : Program) (t : TypeId) : Bool := match P.underlying t with
 | some .bool => true
 | _ => false
def intT (P : Program) (t : TypeId) : Option IntKind := match P.underlying t with
 | some (.int k) => some k
 | _ => none
def fldT (P : Program) (t : TypeId) (i : Nat) : Option (TypeId × Nat) := match P.underlying t with
 | some (.struct fs) => (fs[i]?).map fun f => (f.type, f.offset)
 | _ => none
def fldsT (P : Program) (t : TypeId) : Option (List (Nat × Nat)) := match P.underlying t with
 | some (.struct fs) => fs.toList.mapM fun f => (szT P f.type).map fun n => (f.offset, n)
 | _ => none
def rowOf (σ : Store) (id : Id) : Option Nat → Option (List AV × Nat)
 | none => match σ.get? id with
  | some b => if b.arr then some (b.cells, b.esz) else none
  | none => none
 | some p => match σ.get? id with
  | some b => match b.cells[p]? with
   | some (.nst e _ xs) => if b.arr then some (xs, e) else none
   | _ => none
  | none => none
def setRow (σ : Store) (id : Id) (sub : Option Nat) (xs : List AV) : Option Store :=
 match σ.get? id with
 | none => none
 | some b => match sub with
  | none => some (σ.put id { b with cells := xs })
  | some p => match b.cells[p]? with
   | some (.nst e n _) => some (σ.put id { b with cells := b.cells.set p (.nst e n xs) })
   | _ => none
def viewCell (id : Id) (p : Nat) : AV → AV
 | .nst _ n _ => .own id (some p) 0 n n
 | c => c
def viewFrom (id : Id) : Nat → List AV → List AV
 | _, [] => []
 | p, c :: r => viewCell id p c :: viewFrom id (p + 1) r
def frz : AV → AV
 | .nst _ n xs => .sl 0 n xs
 | c => c
def subNst : AV → AV
 | .nst _ _ _ => .junk
 | c => c
def takeAt (cs : List AV) (off n : Nat) : Option (List AV) := if off + n ≤ cs.length then some ((cs.drop off).take n) else none
def putAt (cs : List AV) (off : Nat) (xs : List AV) : List AV := cs.take off ++ xs ++ cs.drop (off + xs.length)
def readAt (σ : Store) (id : Id) (sub : Option Nat) (off n : Nat) : Option (List AV) :=
 match σ.get? id with
 | none => none
 | some b => match sub with
  | none => (takeAt b.cells off n).map fun cs => if b.arr && b.nest then viewFrom id off cs else cs
  | some p => match b.cells[p]? with
   | some (.nst _ _ xs) => if b.arr then (takeAt xs off n).map fun cs => cs.map subNst else none
   | _ => none
def cellsAt (σ : Store) (n : Nat) : AV → Option (List AV)
 | .ptr id sub off => readAt σ id sub off n
 | .iptr xs => (takeAt xs 0 n).map fun cs => cs.map subNst
 | _ => none
def pack (g : Bool) (cs : List AV) : Option AV := if g = true then some (.agg cs) else match cs with
 | [c] => some c
 | _ => none
def loadA (G : Cfg) (σ : Store) (t : TypeId) (a : AV) : Option AV :=
 (szT G.P t).bind fun n => (aggT G.P t).bind fun g => (cellsAt σ (if g then n else 1) a).bind fun cs => pack g cs
def handIn (inl : Bool) (σ : Store) : AV → Option (AV × Store × List Id)
 | .own id none off n cap => match σ.get? id with
  | some b => if b.arr ∧ b.fr ∧ off = 0 ∧ b.cells.length = n * b.esz ∧ n ≤ cap then
    some (if inl then .nst b.esz n (if b.nest then b.cells.map frz else b.cells) else .sl 0 n (if b.nest then b.cells.map frz else b.cells), σ.del id, [id])
   else if inl = false ∧ b.arr ∧ b.fr ∧ off = 0 ∧ n * b.esz ≤ b.cells.length ∧ n ≤ cap then
    some (.sl 0 n ((if b.nest then b.cells.map frz else b.cells).take (n * b.esz)), σ.del id, [id])
   else none
  | none => none
 | .own _ (some _) _ _ _ => none
 | .nst _ _ _ => none
 | .emp => some (if inl then .emp else .sl 0 0 [], σ, [])
 | c => if c.flat then some (c, σ, []) else none
def handAll (inl : Bool) (σ : Store) : List AV → Option (List AV × Store × List Id)
 | [] => some ([], σ, [])
 | c :: r => match handIn inl σ c with
  | none => none
  | some p => match handAll inl p.2.1 r with
   | none => none
   | some q => some (p.1 :: q.1, q.2.1, p.2.2 ++ q.2.2)
structure Eff where
 val : AV
 σ : Store
 rd : List Id := []
 wr : List Id := []
def storeArr (σ : Store) (id : Id) (b : Blk) (off n : Nat) (cells : List AV) : Option Eff :=
 match handAll false σ cells with
 | none => none
 | some p => if p.1.length = n ∧ off + n ≤ b.cells.length ∧ p.2.2.contains id = false then
   if b.nest = true ∧ p.2.2 ≠ [] then
    if b.fr = true then some { val := undefA, σ := p.2.1.put id { b with cells := putAt (b.cells.map frz) off p.1, nest := false }, wr := id :: p.2.2 } else none
   else some { val := undefA, σ := p.2.1.put id { b with cells := putAt b.cells off p.1 }, wr := id :: p.2.2 }
  else none
def storeBox (σ : Store) (id : Id) (b : Blk) (off n : Nat) (cells : List AV) : Option Eff :=
 if cells.length = n ∧ off + n ≤ b.cells.length then
  some { val := undefA, σ := σ.put id { b with cells := putAt b.cells off cells }, wr := [id] }
 else none
def storeRow (σ : Store) (id : Id) (p : Nat) (off n : Nat) (cells : List AV) : Option Eff :=
 match rowOf σ id (some p) with
 | none => none
 | some q => if cells.length = n ∧ off + n ≤ q.1.length ∧ cells.all AV.flat = true then
   (setRow σ id (some p) (putAt q.1 off cells)).map fun σ' => { val := undefA, σ := σ', wr := [id] }
  else none
def storeAt (σ : Store) (n : Nat) (a x : AV) : Option Eff :=
 if x.cellOk = false then none else
 match a with
 | .ptr id none off => match σ.get? id with
  | none => none
  | some b => if b.arr = true then storeArr σ id b off n x.cells else storeBox σ id b off n x.cells
 | .ptr id (some p) off => storeRow σ id p off n x.cells
 | _ => none
def storeA (G : Cfg) (σ : Store) (t : TypeId) (a x : AV) : Option Eff := (szT G.P t).bind fun n => storeAt σ n a x
def eqFieldA (P : Program) (f : Field) (xs ys : List AV) : Option Bool :=
 match P.underlying f.type, xs[f.offset]?, ys[f.offset]? with
 | some (.int _), some (.sc (.int k a)), some (.sc (.int k' b)) => if k = k' then some (a == b) else none
 | some .bool, some (.sc (.bool a)), some (.sc (.bool b)) => some (a == b)
 | some .string, some (.sc (.string a)), some (.sc (.string b)) => some (a.toList == b.toList)
 | _, _, _ => none
def eqFieldsA (P : Program) (xs ys : List AV) : List Field → Option Bool
 | [] => some true
 | f :: r => if f.name = "_" then none else match eqFieldA P f xs ys, eqFieldsA P xs ys r with
  | some x, some y => some (x && y)
  | _, _ => none
def cmpStr (op : BinOp) (x y : ByteArray) : Option Value :=
 match op with
 | .add => if x.size + y.size ≤ 9223372036854775807 then some (.string (x ++ y)) else none
 | .eql => some (.bool (x.toList == y.toList))
 | .neq => some (.bool !(x.toList == y.toList))
 | .lss => some (.bool (Op.bytesLess x.toList y.toList))
 | .leq => some (.bool (Op.bytesLess x.toList y.toList || x.toList == y.toList))
 | .gtr => some (.bool !(Op.bytesLess x.toList y.toList || x.toList == y.toList))
 | .geq => some (.bool !(Op.bytesLess x.toList y.toList))
 | _ => none
def intBin (op : BinOp) (k : IntKind) (a b : Int) : Option Value :=
 match op with
 | .add => some (.int k (k.wrap (a + b)))
 | .sub => some (.int k (k.wrap (a - b)))
 | .mul => some (.int k (k.wrap (a * b)))
 | .quo => if b = 0 then none else some (.int k (k.wrap (a.tdiv b)))
 | .rem => if b = 0 then none else some (.int k (a.tmod b))
 | .and => some (.int k (k.wrap (BitVec.ofInt k.bits a &&& BitVec.ofInt k.bits b).toNat))
 | .or => some (.int k (k.wrap (BitVec.ofInt k.bits a ||| BitVec.ofInt k.bits b).toNat))
 | .xor => some (.int k (k.wrap (BitVec.ofInt k.bits a ^^^ BitVec.ofInt k.bits b).toNat))
 | .eql => some (.bool (a == b))
 | .neq => some (.bool (a != b))
 | .lss => some (.bool (decide (a < b)))
 | .leq => some (.bool (decide (a ≤ b)))
 | .gtr => some (.bool (decide (b < a)))
 | .geq => some (.bool (decide (b ≤ a)))
 | _ => none
def evBin (P : Program) (op : BinOp) (t : TypeId) (x y : AV) : Option AV :=
 match x, y with
 | .sc (.int k a), .sc (.int k' b) =>
  match op with
  | .shl => if b < 0 then none else some (.sc (.int k (k.wrap (a * 2 ^ min b.toNat k.bits))))
  | .shr => if b < 0 then none else some (.sc (.int k (a.fdiv (2 ^ min b.toNat k.bits))))
  | _ => if k = k' then (intBin op k a b).map .sc else none
 | .sc (.string a), .sc (.string b) => (cmpStr op a b).map .sc
 | .sc (.bool a), .sc (.bool b) =>
  if isBoolT P t = true then
   match op with
   | .eql => some (.sc (.bool (a == b)))
   | .neq => some (.sc (.bool !(a == b)))
   | _ => none
  else none
 | _, _ => none
def evUn (op : UnOp) (x : AV) : Option AV :=
 match op, x with
 | .neg, .sc (.int k n) => some (.sc (.int k (k.wrap (0 - n))))
 | .not, .sc (.bool b) => some (.sc (.bool !b))
 | _, _ => none
def bytesIn : List AV → Option (List UInt8)
 | [] => some []
 | .sc (.int .u8 n) :: r => (bytesIn r).map (UInt8.ofNat n.toNat :: ·)
 | _ => none
def elems (σ : Store) (e : Nat) : AV → Option (Nat × List AV × List Id)
 | .emp => some (0, [], [])
 | .sl _ n xs => if xs.length = n * e then some (n, xs, []) else none
 | .own id sub off n _ => match rowOf σ id sub with
  | some (cs, e') => if e' = e then (takeAt cs off (n * e)).map fun xs => (n, xs, [id]) else none
  | none => none
 | _ => none
def evConv (P : Program) (σ : Store) (src dst : TypeId) (x : AV) : Option Eff :=
 match x with
 | .sc (.int _ n) => match intT P dst with
  | some k => match P.underlying src with
   | some _ => some { val := .sc (.int k (k.wrap n)), σ }
   | none => none
  | none => none
 | .sc (.string s) => if isStrT P dst = true ∧ isStrT P src = true then some { val := .sc (.string s), σ } else none
 | x => match slT P src with
  | some e => match P.underlying e with
   | some (.int .u8) => if isStrT P dst = true then match elems σ 1 x with
     | some (_, xs, ids) => (bytesIn xs).map fun l => { val := .sc (.string ⟨l.toArray⟩), σ, rd := ids }
     | none => none
    else none
   | _ => none
  | none => none
def evIndexAddr (P : Program) (t : TypeId) (x i : AV) : Option AV :=
 match i with
 | .sc (.int _ i) =>
  if i < 0 then none else
  match x with
  | .own id sub off n _ => match slT P t with
   | some e => match szT P e with
    | some s => if i < n then some (.ptr id sub (off + i.toNat * s)) else none
    | none => none
   | none => none
  | .sl _ n xs => match slT P t with
   | some e => match szT P e with
    | some s => if i < n then some (.iptr ((xs.drop (i.toNat * s)).take s)) else none
    | none => none
   | none => none
  | .ptr id sub off => match arT P t with
   | some (n, e) => match szT P e with
    | some s => if i < n then some (.ptr id sub (off + i.toNat * s)) else none
    | none => none
   | none => none
  | .iptr xs => match arT P t with
   | some (n, e) => match szT P e with
    | some s => if i < n then some (.iptr ((xs.drop (i.toNat * s)).take s)) else none
    | none => none
   | none => none
  | _ => none
 | _ => none
def evIndex (P : Program) (t : TypeId) (x i : AV) : Option AV :=
 match i with
 | .sc (.int _ i) =>
  if i < 0 then none else
  match x with
  | .sc (.string s) => if isStrT P t = true then (s[i.toNat]?).map fun b => .sc (.int .u8 b.toNat) else none
  | .agg cs => match arT P t with
   | some (n, e) => match szT P e, aggT P e with
    | some s, some g => if i < n then
      if g then (takeAt cs (i.toNat * s) s).map .agg else cs[i.toNat * s]?
     else none
    | _, _ => none
   | none => none
  | _ => none
 | _ => none
def evField (P : Program) (t : TypeId) (x : AV) (i : Nat) : Option AV :=
 match x, fldT P t i with
 | .agg cs, some (ft, off) => match szT P ft, aggT P ft with
  | some s, some g => if g then (takeAt cs off s).map .agg else cs[off]?
  | _, _ => none
 | _, _ => none
def evFieldAddr (P : Program) (t : TypeId) (x : AV) (i : Nat) : Option AV :=
 match fldT P t i with
 | some (ft, off) => match szT P ft with
  | some s => if s = 0 then none else match x with
   | .ptr id sub o => some (.ptr id sub (o + off))
   | .iptr xs => some (.iptr (xs.drop off))
   | _ => none
  | none => none
 | none => none
def fillA (place : Nat → Option (Nat × Nat)) (cells : List AV) : List (Nat × AV) → Option (List AV)
 | [] => some cells
 | (i, v) :: rest => match place i with
  | none => none
  | some (off, size) => if v.cellOk = true ∧ v.cells.length = size ∧ off + size ≤ cells.length then fillA place (putAt cells off v.cells) rest else none
def repl (n : Nat) (z : List AV) : List AV := (List.replicate n z).flatten
def bound : AV → Option Int
 | .sc (.int _ n) => some n
 | _ => none
def bMax (cap : Nat) : Option AV → Option (Option Nat)
 | none => some none
 | some x => match bound x with
  | some k => if 0 ≤ k ∧ k ≤ (cap : Int) then some (some k.toNat) else none
  | none => none
def underMax (k : Int) : Option Nat → Bool
 | none => true
 | some q => decide (k ≤ (q : Int))
def bHi (n cap : Nat) (m : Option Nat) (noMax : Bool) : Option AV → Option Nat
 | none => if noMax = true then some n else none
 | some x => match bound x with
  | some k => if 0 ≤ k ∧ k ≤ (cap : Int) ∧ underMax k m = true then some k.toNat else none
  | none => none
def bLo (h : Nat) : Option AV → Option Nat
 | none => some 0
 | some x => match bound x with
  | some k => if 0 ≤ k ∧ k ≤ (h : Int) then some k.toNat else none
  | none => none
def evBounds (n cap : Nat) (lo hi mx : Option AV) : Option (Nat × Nat × Option Nat) :=
 (bMax cap mx).bind fun m => (bHi n cap m mx.isNone hi).bind fun h => (bLo h lo).bind fun l => some (l, h, m)
def evSlice (P : Program) (σ : Store) (t : TypeId) (x : AV) (lo hi mx : Option AV) : Option AV :=
 match x with
 | .sc (.string s) => if isStrT P t = true ∧ mx.isNone = true then (evBounds s.size s.size lo hi none).map fun p => .sc (.string (s.extract p.1 p.2.1)) else none
 | .emp => match slT P t with
  | some e => match szT P e with
   | some _ => (evBounds 0 0 lo hi mx).map fun _ => .emp
   | none => none
  | none => none
 | .sl _ n xs => match slT P t with
  | some e => match szT P e with
   | some s => if xs.length = n * s then (evBounds n n lo hi mx).map fun p =>
     if p.2.2 = some p.1 then .emp else .sl 0 (p.2.1 - p.1) ((xs.drop (p.1 * s)).take ((p.2.1 - p.1) * s)) else none
   | none => none
  | none => none
 | .own id sub off n cap => match slT P t with
  | some e => match szT P e with
   | some s => match rowOf σ id sub with
    | some (_, e') => if e' = s then (evBounds n cap lo hi mx).map fun p =>
      if p.2.2 = some p.1 then .emp else .own id sub (off + p.1 * s) (p.2.1 - p.1) ((p.2.2.getD cap) - p.1)
     else none
    | none => none
   | none => none
  | none => none
 | _ => none
def isNst : AV → Bool
 | .nst .. => true
 | _ => false
def appendSrc (σ : Store) (new : List AV) (x : AV) : Option Store :=
 if new.any isNst = true then match x with
  | .own id none _ _ _ => match σ.get? id with
   | some b => if b.fr = true then some (σ.del id) else none
   | none => none
  | _ => none
 else some σ
def appendNew (σ : Store) (t : Nat) (fr nest : Bool) (e by_ n : Nat) (cells : List AV) (rd wr : List Id) : Option Eff :=
 if n * by_ ≤ 140737488355328 ∧ n ≤ 9223372036854775807 ∧ (cells.any isNst = true → fr = true) ∧ σ.has (.v t) = false then
  some { val := .own (.v t) none 0 n n, σ := σ.put (.v t) ⟨true, fr, nest, e, cells⟩, rd := rd, wr := .v t :: wr }
 else none
def appendTo (σ : Store) (t e by_ : Nat) (id : Id) (sub : Option Nat) (off n cap k : Nat) (new : List AV) (rd xw : List Id) : Option Eff :=
 match rowOf σ id sub, σ.get? id with
 | some q, some b =>
  if q.2 = e ∧ rd.contains id = false then
   if n + k ≤ cap ∧ k ≠ 0 ∧ sub.isSome = true then
    if off + cap * e ≤ q.1.length ∧ new.any isNst = false then
     (setRow σ id sub (putAt q.1 (off + n * e) new)).map fun σ' =>
      { val := .own id sub off (n + k) cap, σ := σ', rd := rd, wr := id :: xw }
    else none
   else if off + n * e ≤ q.1.length ∧ n ≤ cap ∧ sub = none then
    appendNew (σ.del id) t b.fr (b.nest || new.any isNst) e by_ (n + k) (((q.1.drop off).take (n * e)) ++ new) rd (id :: xw)
   else none
  else none
 | _, _ => none
def evAppend1 (σ : Store) (t e by_ : Nat) (s : AV) (k : Nat) (new : List AV) (rd xw : List Id) : Option Eff :=
 match s with
 | .emp => appendNew σ t true (new.any isNst) e by_ k new rd xw
 | .sl e' n xs => if k = 0 then some { val := .sl e' n xs, σ := σ, rd := rd, wr := xw } else none
 | .own id sub off n cap => appendTo σ t e by_ id sub off n cap k new rd xw
 | _ => none
def evAppend (G : Cfg) (σ : Store) (st : TypeId) (s x : AV) (t : Nat) : Option Eff :=
 (slT G.P st).bind fun et => (szT G.P et).bind fun e => (byT G.P et).bind fun by_ => (zeroT G.P et).bind fun z =>
  if z.length = e then (elems σ e x).bind fun q => (appendSrc σ q.2.1 x).bind fun σ1 => evAppend1 σ1 t e by_ s q.1 q.2.1 q.2.2 (if q.2.1.any isNst then q.2.2 else [])
  else none
abbrev Names := List (Id × Id)
def Names.to : Names → Id → Option Id
 | [], _ => none
 | (a, b) :: r, i => if a = i then some b else Names.to r i
mutual
def AV.refs : AV → List Id
 | .own id _ _ _ _ => [id]
 | .ptr id _ _ => [id]
 | .agg cs => AV.refsL cs
 | .tup cs => AV.refsL cs
 | .clo _ cs => AV.refsL cs
 | _ => []
def AV.refsL : List AV → List Id
 | [] => []
 | x :: r => x.refs ++ AV.refsL r
end
mutual
def AV.ren (N : Names) : AV → AV
 | .own id sub off n cap => match N.to id with
  | some j => .own j sub off n cap
  | none => .junk
 | .ptr id sub off => match N.to id with
  | some j => .ptr j sub off
  | none => .junk
 | .agg cs => .agg (AV.renL N cs)
 | .tup cs => .tup (AV.renL N cs)
 | .clo f cs => .clo f (AV.renL N cs)
 | x => x
def AV.renL (N : Names) : List AV → List AV
 | [] => []
 | x :: r => x.ren N :: AV.renL N r
end
def Blk.ren (N : Names) (b : Blk) : Blk := if b.arr then b else { b with cells := AV.renL N b.cells }
def Store.ren (σ : Store) : Names → Names → Store
 | _, [] => []
 | N, (a, b) :: r => (b, (σ.get? a).map (Blk.ren N)) :: Store.ren σ N r
def memId (i : Id) : List Id → Bool
 | [] => false
 | j :: r => if j = i then true else memId i r
def nodupB : List Id → Bool
 | [] => true
 | i :: r => !memId i r && nodupB r
def Names.ok (N : Names) : Bool := nodupB (N.map (·.1)) && nodupB (N.map (·.2))
def nameIds (σ : Store) (nm : Nat → Id) : Nat → List Id → Names → Nat × Names
 | k, [], N => (k, N)
 | k, i :: r, N => if (N.to i).isSome ∨ (σ.get? i).isNone then nameIds σ nm k r N else nameIds σ nm (k + 1) r (N ++ [(i, nm k)])
def boxRefs (σ : Store) : Names → List Id
 | [] => []
 | (a, _) :: r => (match σ.get? a with
  | some b => if b.arr then [] else AV.refsL b.cells
  | none => []) ++ boxRefs σ r
def collect (σ : Store) (nm : Nat → Id) (ids : List Id) (N : Names) : Nat × Names :=
 let (k, N) := nameIds σ nm 0 ids N
 let (k, N) := nameIds σ nm k (boxRefs σ N) N
 nameIds σ nm k (boxRefs σ N) N
def giveUp (σ : Store) : AV → Option AV
 | .own id sub off n _ => match rowOf σ id sub with
  | some (cs, e) => (takeAt cs off (n * e)).map fun xs =>
    .sl 0 n (if sub.isNone ∧ ((σ.get? id).map (·.nest)).getD true then xs.map frz else if sub.isNone then xs else xs.map subNst)
  | none => none
 | .emp => some (.sl 0 0 [])
 | c => some c
def giveUpL (σ : Store) : List AV → Option (List AV)
 | [] => some []
 | c :: r => (giveUp σ c).bind fun c' => (giveUpL σ r).bind fun r' => some (c' :: r')
def giveUpV (σ : Store) : AV → Option AV
 | .agg cs => (giveUpL σ cs).map .agg
 | c => giveUp σ c
def giveUpVs (σ : Store) : List AV → Option (List AV)
 | [] => some []
 | c :: r => (giveUpV σ c).bind fun c' => (giveUpVs σ r).bind fun r' => some (c' :: r')
def giveUpT (σ : Store) : AV → Option AV
 | .tup vs => (giveUpVs σ vs).map .tup
 | v => giveUpV σ v
mutual
def AV.imm : AV → Bool
 | .sl .. => true
 | .iptr _ => true
 | .nst _ _ xs => AV.immL xs
 | .agg cs => AV.immL cs
 | .tup cs => AV.immL cs
 | .clo _ cs => AV.immL cs
 | _ => false
def AV.immL : List AV → Bool
 | [] => false
 | x :: r => x.imm || AV.immL r
end
def lentRefs (lend : Nat → Bool) : Nat → List AV → List Id
 | _, [] => []
 | i, x :: r => (match x with
  | .ptr id _ _ => [id]
  | .clo _ cs => AV.refsL cs
  | x => if lend i then x.refs else []) ++ lentRefs lend (i + 1) r
def passOne (σ : Store) (N : Names) (lend : Bool) (x : AV) : Option (AV × List Id) :=
 match x with
 | .ptr id s off => some (AV.ren N (.ptr id s off), [])
 | .clo f cs => some (AV.ren N (.clo f cs), [])
 | x => if lend = true then some (x.ren N, []) else (giveUpV σ x).map fun y => (y.ren N, x.refs)
def passAll (σ : Store) (N : Names) (lend : Nat → Bool) : Nat → List AV → Option (List AV × List Id)
 | _, [] => some ([], [])
 | i, x :: r => (passOne σ N (lend i) x).bind fun p => (passAll σ N lend (i + 1) r).bind fun q => some (p.1 :: q.1, p.2 ++ q.2)
def delAll (σ : Store) : List Id → Store
 | [] => σ
 | i :: r => delAll (σ.del i) r
def backLent (σ σ1 : Store) (B : Names) : Names → Store
 | [] => σ
 | (a, l) :: r => match σ1.get? l, σ.get? a with
  | some b, some b0 => backLent (σ.put a { (b.ren B) with fr := b0.fr }) σ1 B r
  | _, _ => backLent (σ.del a) σ1 B r
def frAll (σ : Store) : Names → Bool
 | [] => true
 | (a, _) :: r => ((σ.get? a).map (·.fr)).getD false && frAll σ r
def upFr (q : Bool) (b : Blk) : Blk := { b with fr := b.fr || q }
def addNew (q : Bool) (σ σ1 : Store) (B : Names) : Names → Option Store
 | [] => some σ
 | (a, b) :: r => match σ1.get? a with
  | some x => if σ.has b then none else addNew q (σ ++ [(b, some (upFr q (x.ren B)))]) σ1 B r
  | none => none
def immIn (σ1 : Store) : Names → Bool
 | [] => false
 | (l, _) :: r => (match σ1.get? l with
  | some b => AV.immL b.cells
  | none => false) || immIn σ1 r
def lendS : Store → Store
 | [] => []
 | (i, b) :: r => (i, b.map fun b => { b with fr := false }) :: lendS r
abbrev Oracle := FuncId → List AV → Store → Option (AV × Store)
def backNames (σ1 : Store) (t : Nat) (N : Names) (res : AV) : Names :=
 (collect σ1 (.r t) (res.refs ++ boxRefs σ1 (N.map fun p => (p.2, p.1))) (N.map fun p => (p.2, p.1))).2
def callBack (fz : Bool) (σ : Store) (t : Nat) (N : Names) (frozen : List Id) (q : AV × Store) (B : Names) : Option Eff :=
 if B.ok = false then none else
 (addNew (frAll σ N) (backLent σ q.2 B N) q.2 B (B.drop N.length)).bind fun σ3 =>
  if (!frozen.isEmpty && (fz || (q.1.imm || immIn q.2 B))) = true then
   if (frozen.all fun i => ((σ.get? i).map (·.fr)).getD false) = true then
    some { val := q.1.ren B, σ := delAll σ3 frozen, rd := N.map (·.1), wr := N.map (·.1) ++ frozen ++ (B.drop N.length).map (·.2) }
   else none
  else some { val := q.1.ren B, σ := σ3, rd := frozen, wr := N.map (·.1) ++ (B.drop N.length).map (·.2) }
def callIn (G : Cfg) (C : Oracle) (σ : Store) (f : FuncId) (args : List AV) (t : Nat) (N : Names) : Option Eff :=
 if N.ok = false then none else
 (passAll σ N (G.lend f) 0 args).bind fun p =>
  if p.2.any fun i => (N.to i).isSome then none else
   (C f p.1 (lendS (σ.ren N N))).bind fun q => callBack (!(G.hint f 1000003).isEmpty) σ t N p.2 q (backNames q.2 t N q.1)
def callA (G : Cfg) (C : Oracle) (σ : Store) (f : FuncId) (args : List AV) (t : Nat) : Option Eff :=
 (callIn G C σ f args t (collect σ .l (lentRefs (G.lend f) 0 args) []).2).map fun e =>
  { e with rd := lentRefs (G.lend f) 0 args ++ (boxRefs σ (collect σ .l (lentRefs (G.lend f) 0 args) []).2 ++ e.rd) }
def pure_ (σ : Store) (v : Option AV) : Option Eff := v.map fun v => { val := v, σ }
def mm (mx : Bool) : List AV → Option AV
 | [] => none
 | .sc (.int k a) :: r => go k a r
 | _ => none
where
 go (k : IntKind) (a : Int) : List AV → Option AV
  | [] => some (.sc (.int k a))
  | .sc (.int _ b) :: r => go k (if mx then (if a < b then b else a) else (if b < a then b else a)) r
  | _ => none
def lenA (P : Program) (t : TypeId) : AV → Option AV
 | .sc (.string s) => if isStrT P t = true then some (.sc (.int .i64 s.size)) else none
 | .sc (.slice _ n _) => (slT P t).map fun _ => .sc (.int .i64 n)
 | .sl _ n _ => (slT P t).map fun _ => .sc (.int .i64 n)
 | .emp => (slT P t).map fun _ => .sc (.int .i64 0)
 | .own _ _ _ n _ => (slT P t).map fun _ => .sc (.int .i64 n)
 | .agg _ => (arT P t).map fun (n, _) => .sc (.int .i64 n)
 | _ => none
def knV (G : Cfg) : AV → AV
 | .sc (.slice A n k) => match G.kn (.slice A n k) with
  | some p => .sl 0 p.1 p.2
  | none => .sc (.slice A n k)
 | x => x
def evBuiltin (G : Cfg) (σ : Store) (b : Builtin) (tys : Array TypeId) (args : List AV) (t : Nat) : Option Eff :=
 match b with
 | .len => match tys[0]?, args with
  | some ty, [x] => pure_ σ (lenA G.P ty x)
  | _, _ => none
 | .append => match tys[0]?, tys[1]?, args with
  | some ty, some tx, [s, x] => match G.P.underlying tx with
   | some (.int _) => none
   | some _ => evAppend G σ ty s (knV G x) t
   | none => none
  | _, _, _ => none
 | .max => pure_ σ (mm true args)
 | .min => pure_ σ (mm false args)
 | _ => none
def evCallee (G : Cfg) (C : Oracle) (σ : Store) (x : AV) (args : List AV) (t : Nat) : Option Eff :=
 match x with
 | .clo g caps => match G.P.funcs[g]? with
  | some fn => if fn.body.isNone then none else callA G C σ g (args ++ caps) t
  | none => none
 | _ => none
def evCall (G : Cfg) (C : Oracle) (σ : Store) (ts : List AV) (c : Call) (t : Nat) : Option Eff :=
 match c.callee with
 | .value x => evCallee G C σ (evOpd G ts x) (c.args.toList.map (evOpd G ts)) t
 | .builtin b => evBuiltin G σ b c.argTypes (c.args.toList.map (evOpd G ts)) t
 | _ => none
def scT (P : Program) (t : TypeId) : Option (List Field) := match P.underlying t with
 | some (.struct fs) => if !P.stoodInHeld t && !P.eqGuardType P.depth t then some fs.toList else none
 | _ => none
def newBlk (σ : Store) (dst : Option Tmp) (b : Blk) (v : AV) : Option Eff := match dst with
 | some t => if σ.has (.v t) = false then some { val := v, σ := σ.put (.v t) b, wr := [.v t] } else none
 | none => none
def evPick (e : Operand → AV) (c a b : Operand) : Option AV := match e c with
 | .sc (.bool q) => some (if q then e a else e b)
 | _ => none
def evAlloc (G : Cfg) (σ : Store) (dst : Option Tmp) (elem : TypeId) : Option Eff := match zeroT G.P elem with
 | some cs => newBlk σ dst ⟨false, true, false, 0, cs⟩ (.ptr (.v (dst.getD 0)) none 0)
 | none => none
def evBox (σ : Store) (dst : Option Tmp) (x : AV) : Option Eff :=
 if x.cellOk = true then newBlk σ dst ⟨false, true, false, 0, x.cells⟩ (.ptr (.v (dst.getD 0)) none 0) else none
def evBuild (G : Cfg) (ty : TypeId) (parts : List (Nat × AV)) : Option AV := match zeroT G.P ty with
 | some z => match fldsT G.P ty with
  | some fs => (fillA (fun i => fs[i]?) z parts).map .agg
  | none => match arT G.P ty with
   | some (_, el) => match szT G.P el with
    | some s => (fillA (fun i => some (i * s, s)) z parts).map .agg
    | none => none
   | none => none
 | none => none
def evBuildSlice (G : Cfg) (inl : Bool) (σ : Store) (dst : Option Tmp) (ty : TypeId) (len : Nat) (parts : List (Nat × AV)) : Option Eff :=
 match slT G.P ty with
 | some el => match szT G.P el, zeroT G.P el with
  | some s, some z => if len * s ≤ 16777216 ∧ z.length = s then
    match fillA (fun i => some (i * s, s)) (repl len z) parts with
    | some cs => match handAll inl σ cs with
     | some (cs', σ', ids) => match dst with
      | some t => if σ'.has (.v t) = false then
        some { val := .own (.v t) none 0 len len, σ := σ'.put (.v t) ⟨true, true, inl && !ids.isEmpty, s, cs'⟩, wr := .v t :: ids }
       else none
      | none => none
     | none => none
    | none => none
   else none
  | _, _ => none
 | none => none
def evNilCheck (x : AV) : Option AV := match x with
 | .ptr id s off => some (.ptr id s off)
 | .iptr xs => some (.iptr xs)
 | .clo g cs => some (.clo g cs)
 | _ => none
def evBinOp (P : Program) (op : BinOp) (ty : TypeId) (a b : AV) : Option AV := match op, a, b with
 | .eql, .agg a, .agg b => (scT P ty).bind fun fs => (eqFieldsA P a b fs).map fun q => .sc (.bool q)
 | .neq, .agg a, .agg b => (scT P ty).bind fun fs => (eqFieldsA P a b fs).map fun q => .sc (.bool !q)
 | op, a, b => evBin P op ty a b
def isNilC : Operand → Bool
 | .const (.slice none 0 0) => true
 | _ => false
def evNil (P : Program) (op : BinOp) (ty : TypeId) (m : Nat) : Option AV := match op, slT P ty, m with
 | .eql, some _, 0 => some (.sc (.bool true))
 | .eql, some _, 1 => some (.sc (.bool false))
 | _, _, _ => none
def evBinOpN (P : Program) (op : BinOp) (ty : TypeId) (a b : AV) (y : Operand) : Option AV := match isNilC y, a with
 | true, .sl (m + 1) _ _ => evNil P op ty m
 | _, _ => evBinOp P op ty a b
def evMakeFunc (fn : Fn) (first : Array Operand) (caps : List AV) : Option AV := match fn with
 | .func g => if first.isEmpty then some (.clo g caps) else none
 | _ => none
def nrm (inl : Bool) : AV → AV
 | .emp => if inl then .emp else .sl 0 0 []
 | c => c
def evMakeSlice (G : Cfg) (inl : Bool) (σ : Store) (dst : Option Tmp) (ty : TypeId) (l c : AV) : Option Eff := match slT G.P ty, l, c with
 | some el, .sc (.int _ n), .sc (.int _ m) => match szT G.P el, zeroT G.P el, byT G.P el with
  | some s, some z, some by_ => if n = m ∧ 0 ≤ n ∧ n * by_ ≤ 140737488355328 ∧ n ≤ 9223372036854775807 ∧ z.length = s then
    newBlk σ dst ⟨true, true, false, s, repl n.toNat (z.map (nrm inl))⟩ (.own (.v (dst.getD 0)) none 0 n.toNat n.toNat)
   else none
  | _, _, _ => none
 | _, _, _ => none
def evExtract (x : AV) (i : Nat) : Option AV := match x with
 | .tup vs => vs[i]?
 | _ => none
def evOp1 (G : Cfg) (inl : Bool) (e : Operand → AV) (σ : Store) (dst : Option Tmp) (op : Op) : Option Eff :=
 match op with
 | .move x => pure_ σ (some (e x))
 | .assign x => pure_ σ (some (e x))
 | .pick c a b => pure_ σ (evPick e c a b)
 | .alloc elem => evAlloc G σ dst elem
 | .box _ x => evBox σ dst (e x)
 | .build ty parts => pure_ σ (evBuild G ty (parts.toList.map fun p => (p.1, e p.2)))
 | .buildSlice ty len parts => evBuildSlice G inl σ dst ty len (parts.toList.map fun p => (p.1, e p.2))
 | .load ty a => (loadA G σ ty (e a)).map fun v => { val := v, σ, rd := (e a).refs }
 | .store ty a x => storeA G σ ty (e a) (e x)
 | .nilCheck x => pure_ σ (evNilCheck (e x))
 | .binOp op ty x y _ => pure_ σ (evBinOpN G.P op ty (e x) (e y) y)
 | .unOp op _ x => pure_ σ (evUn op (e x))
 | .convert src dst x => evConv G.P σ src dst (knV G (e x))
 | .makeFunc fn first caps => pure_ σ (evMakeFunc fn first (caps.toList.map e))
 | .makeSlice ty l c => evMakeSlice G inl σ dst ty (e l) (e c)
 | .slice ty x lo hi mx => (evSlice G.P σ ty (knV G (e x)) (lo.map e) (hi.map e) (mx.map e)).map fun v => { val := v, σ, rd := (knV G (e x)).refs }
 | .fieldAddr ty x i => pure_ σ (evFieldAddr G.P ty (e x) i)
 | .field ty x i => pure_ σ (evField G.P ty (e x) i)
 | .indexAddr ty x i => pure_ σ (evIndexAddr G.P ty (knV G (e x)) (e i))
 | .index ty x i => pure_ σ (evIndex G.P ty (e x) (e i))
 | .extract x i => pure_ σ (evExtract (e x) i)
 | _ => none
def evOp (G : Cfg) (C : Oracle) (f : FuncId) (ts : List AV) (σ : Store) (o : Oper) : Option Eff :=
 match o.op with
 | .call c => evCall G C σ ts c (o.dst.getD 0)
 | op => evOp1 G (G.inl f) (evOpd G ts) σ o.dst op
structure St where
 ts : List AV
 σ : Store
def putT (ts : List AV) (d : Option Tmp) (v : AV) : List AV := match d with
 | some d => ts.set d v
 | none => ts
def wantedA (ops : List Oper) (ts : List AV) (o : Oper) : Option Bool :=
 match o.guard with
 | none => some true
 | some (j, want) => match (ops[j]?).bind (·.dst) with
  | none => none
  | some d => match ts.getD d undefA with
   | .sc (.bool b) => some (b == want)
   | .sc (.tuple _) => some false
   | _ => none
def evOps (G : Cfg) (C : Oracle) (f : FuncId) (ops : List Oper) : List Oper → St → Option (St × List (List Id × List Id))
 | [], s => some (s, [])
 | o :: r, s => match wantedA ops s.ts o with
  | some true => match evOp G C f s.ts s.σ o with
   | some e => match evOps G C f ops r ⟨putT s.ts o.dst e.val, e.σ⟩ with
    | some (s', tr) => some (s', (e.rd, e.wr) :: tr)
    | none => none
   | none => none
  | some false => match evOps G C f ops r ⟨putT s.ts o.dst undefA, s.σ⟩ with
   | some (s', tr) => some (s', ([], []) :: tr)
   | none => none
  | none => none
def mayFirst (ops : Array Oper) (listed : Array Bool) (i : Nat) : Bool := match ops[i]? with
 | some o => (List.range ops.size).all fun j => match ops[j]? with
  | some oj => j == i || listed.getD j true || (oj.after.toList.any fun e => Region.binds .any e && e.on == i) || o.apart ops oj
  | none => true
 | none => false
def ordOf (ops : Array Oper) : Nat → Array Bool → Option (List Nat)
 | 0, listed => match Region.ready .any ops listed with
  | [] => some []
  | _ => none
 | n + 1, listed => match Region.ready .any ops listed with
  | [] => some []
  | r => match r.find? (mayFirst ops listed) with
   | some i => (ordOf ops n (listed.setIfInBounds i true)).map (i :: ·)
   | none => none
def Store.same (σ τ : Store) : Prop := ∀ id, σ.get? id = τ.get? id ∧ σ.has id = τ.has id
def St.same (s t : St) : Prop := s.ts = t.ts ∧ s.σ.same t.σ
def evStep (G : Cfg) (C : Oracle) (f : FuncId) (ops : Array Oper) (i : Nat) (s : St) : Option (St × List Id × List Id) :=
 match ops[i]? with
 | none => some (s, [], [])
 | some o => match wantedA ops.toList s.ts o with
  | some true => (evOp G C f s.ts s.σ o).map fun e => (⟨putT s.ts o.dst e.val, e.σ⟩, e.rd, e.wr)
  | some false => some (⟨putT s.ts o.dst undefA, s.σ⟩, [], [])
  | none => none
def disj (a b : List Id) : Bool := a.all fun i => !memId i b
def waitsT (ops : Array Oper) : Nat → Nat → Nat → Bool
 | 0, _, _ => false
 | n + 1, j, i => match ops[j]? with
  | some oj => (oj.after.toList.any fun e => Region.binds .any e && e.on == i) || (oj.after.toList.any fun e => Region.binds .any e && waitsT ops n e.on i)
  | none => false
def apartW (ops : Array Oper) (j : Nat) (rd wr : List Id) : List (Nat × List Id × List Id) → Bool
 | [] => true
 | (i, r, w) :: rest => ((disj rd w && (disj wr r && disj wr w)) || waitsT ops ops.size j i) && apartW ops j rd wr rest
def evF (G : Cfg) (C : Oracle) (f : FuncId) (ops : Array Oper) : List Nat → List (Nat × List Id × List Id) → St → Option St
 | [], _, s => some s
 | i :: p, Ws, s => (evStep G C f ops i s).bind fun q => if apartW ops i q.2.1 q.2.2 Ws = true then evF G C f ops p ((i, q.2) :: Ws) q.1 else none
def evRegion (G : Cfg) (C : Oracle) (f : FuncId) (ops : Array Oper) (draw : Bool) (s : St) : Option St :=
 if draw = true then (ordOf ops ops.size (Array.replicate ops.size false)).bind fun p => evF G C f ops p [] s
 else (evOps G C f ops.toList ops.toList s).map (·.1)
inductive Ex where
 | normal | exit (id : Nat) | ret
 deriving DecidableEq
def firstRegion : Code → Nat
 | .region id _ _ => id
 | .seq a _ => firstRegion a
 | .block _ b | .loop b | .scope b => firstRegion b
 | .cond _ a _ => firstRegion a
 | _ => 0
def headIds (ts : List AV) (σ : Store) : List (Nat × Option Nat) → Names → Names
 | [], N => N
 | (t, _) :: r, N => headIds ts σ r (collect σ (.h t) ((ts.getD t .junk).refs) N).2
def lentNames : Store → Names
 | [] => []
 | (.l i, _) :: r => (.l i, .l i) :: lentNames r
 | _ :: r => lentNames r
def headTs (ts : List AV) (N : Names) (H : List (Nat × Option Nat)) : Nat → Nat → List AV
 | _, 0 => []
 | i, n + 1 => (match H.find? (·.1 == i) with
  | some (_, m) => match ts.getD i .junk, m with
   | .emp, some _ => .own (.h i 0) none 0 0 0
   | x, _ => x.ren N
  | none => .junk) :: headTs ts N H (i + 1) n
def headMat (ts : List AV) : List (Nat × Option Nat) → Store
 | [] => []
 | (t, some e) :: r => match ts.getD t .junk with
  | .emp => (.h t 0, some ⟨true, true, Nat.ble 1000 e, e % 1000, []⟩) :: headMat ts r
  | _ => headMat ts r
 | _ :: r => headMat ts r
def headAt (H : List (Nat × Option Nat)) (s : St) (N : Names) : Option St :=
 if (N.ok && nodupB ((s.σ.ren N N ++ headMat s.ts H).map (·.1))) = true then some ⟨headTs s.ts N H 0 s.ts.length, s.σ.ren N N ++ headMat s.ts H⟩ else none
def boxMat1 (ts : List AV) (σ : Store) (slot p e : Nat) : Store := match ts.getD slot .junk with
 | .ptr id none _ => match σ.get? id with
  | some b => if (!b.arr && !σ.has (.h slot (500 + p))) = true then
    (match b.cells[p]? with
    | some .emp => Store.put (σ ++ [(.h slot (500 + p), some ⟨true, true, Nat.ble 1000 e, e % 1000, []⟩)]) id { b with cells := b.cells.set p (.own (.h slot (500 + p)) none 0 0 0) }
    | _ => σ)
   else σ
  | none => σ
 | _ => σ
def boxMats (ts : List AV) : List (Nat × Option Nat) → Store → Store
 | [], σ => σ
 | (t, some e) :: r, σ => bif Nat.ble 1000000 t then boxMats ts r (boxMat1 ts σ ((t - 1000000) / 1000) ((t - 1000000) % 1000) e) else boxMats ts r σ
 | (_, none) :: r, σ => boxMats ts r σ
def head1 (H : List (Nat × Option Nat)) (s : St) : Option St := headAt H s (headIds s.ts s.σ H (lentNames s.σ))
def head (H : List (Nat × Option Nat)) (s : St) : Option St := head1 H ⟨s.ts, boxMats s.ts H s.σ⟩
def matOne (H : List (Nat × Option Nat)) (p : Nat) (x : AV) (σ : Store) : AV × Store := match x with
 | .emp => match H.find? (·.1 == p) with
  | some (_, some e) => if σ.has (.h 999999 p) = true then (.emp, σ) else (.own (.h 999999 p) none 0 0 0, σ ++ [(.h 999999 p, some ⟨true, true, Nat.ble 1000 e, e % 1000, []⟩)])
  | _ => (.emp, σ)
 | .own (.l i) none off n cap => match H.find? (·.1 == 500000 + p), σ.get? (.l i) with
  | some _, some b => if (b.arr && !σ.has (.h 999998 p)) = true then (.own (.h 999998 p) none off n cap, σ.del (.l i) ++ [(.h 999998 p, some b)]) else (.own (.l i) none off n cap, σ)
  | _, _ => (.own (.l i) none off n cap, σ)
 | x => (x, σ)
def matL (H : List (Nat × Option Nat)) : Nat → List AV → Store → List AV × Store
 | _, [], σ => ([], σ)
 | p, x :: r, σ => match matOne H p x σ with
  | (y, σ1) => match matL H (p + 1) r σ1 with
   | (ys, σ2) => (y :: ys, σ2)
def matV (H : List (Nat × Option Nat)) (p : Nat) (x : AV) (σ : Store) : AV × Store := match x with
 | .agg cs => match matL H p cs σ with
  | (ys, σ1) => (.agg ys, σ1)
 | x => matOne H p x σ
def matVs (H : List (Nat × Option Nat)) : Nat → List AV → Store → List AV × Store
 | _, [], σ => ([], σ)
 | p, x :: r, σ => match matV H p x σ with
  | (y, σ1) => match matVs H (p + 100) r σ1 with
   | (ys, σ2) => (y :: ys, σ2)
def matT (H : List (Nat × Option Nat)) (x : AV) (σ : Store) : AV × Store := match x with
 | .tup vs => match matVs H 0 vs σ with
  | (ys, σ1) => (.tup ys, σ1)
 | x => matV H 0 x σ
abbrev LoopOracle := FuncId → Code → St → Option (Ex × St)
def evCode (G : Cfg) (C : Oracle) (L : LoopOracle) (f : FuncId) : Code → St → Option (Ex × St)
 | .skip, s => some (.normal, s)
 | .label _, s => some (.normal, s)
 | .region _ ops draw, s => (evRegion G C f ops draw s).map fun s' => (.normal, s')
 | .seq a b, s => match evCode G C L f a s with
  | some (.normal, s') => evCode G C L f b s'
  | r => r
 | .cond c x y, s => match evOpd G s.ts c with
  | .sc (.bool b) => if b then evCode G C L f x s else evCode G C L f y s
  | _ => none
 | .block id b, s => match evCode G C L f b s with
  | some (.exit i, s') => if i = id then some (.normal, s') else some (.exit i, s')
  | r => r
 | .loop b, s => (head (G.hint f (firstRegion b)) s).bind (L f b)
 | .scope b, s => evCode G C L f b s
 | .exit id, s => some (.exit id, s)
 | .ret, s => some (.ret, s)
 | _, _ => none
def resA (G : Cfg) (ts : List AV) (σ : Store) : ResultVar → Option AV
 | .tmp t => some (ts.getD t undefA)
 | .cell a t => loadA G σ t (ts.getD a undefA)
def resultA (G : Cfg) (fn : Func) (s : St) : Option AV :=
 match fn.results.toList.mapM (resA G s.ts s.σ) with
 | some [v] => some v
 | some vs => some (.tup vs)
 | none => none
def leaveWith (N : Names) (v : AV) (σ : Store) : Option (AV × Store) :=
 if (N.ok && (v.refs).all fun i => match i with | .l _ => false | _ => ((σ.get? i).map (·.fr)).getD false) = true then
  (giveUpT σ v).map fun v' => (v'.ren N, σ.ren N N)
 else none
def leaveKeep (N : Names) (v : AV) (σ : Store) : Option (AV × Store) := if N.ok = true then some (v.ren N, σ.ren N N) else none
def leaveK (p : AV × Store) : Option (AV × Store) := match p with
 | (v, σ) => leaveKeep (collect σ (.r 0) v.refs (lentNames σ)).2 v σ
def leaveA (G : Cfg) (f : FuncId) (v : AV) (σ : Store) : Option (AV × Store) := if G.keep f then leaveK (matT (G.hint f 1000000) v σ) else leaveWith (lentNames σ) v σ
def callBody0 (G : Cfg) (C : Oracle) (L : LoopOracle) (f : FuncId) (args : List AV) (σ : Store) : Option (AV × Store) :=
 match G.P.funcs[f]? with
 | some fn => match fn.body with
  | some c => match evCode G C L f c ⟨args ++ List.replicate (fn.ntmps - args.length) undefA, σ⟩ with
   | some (.normal, s) | some (.ret, s) => match resultA G fn s with
    | some v => leaveA G f v s.σ
    | none => none
   | _ => none
  | none => none
 | none => none
noncomputable def callZ (G : Cfg) (B : Oracle) : Oracle := fun f args σ => match G.hint f 1000002, args with
 | _ :: _, [.sl 0 n xs] => open Classical in if n = 0 → B f [.sl 1 0 []] σ = B f [.sl 2 n xs] σ then B f [.sl 2 n xs] σ else none
 | _ :: _, [.emp] => open Classical in if B f [.sl 1 0 []] σ = B f [.sl 2 0 []] σ then B f [.sl 2 0 []] σ else none
 | _, args => B f args σ
def callX (G : Cfg) (B : Oracle) : Oracle := fun f args σ => match G.ext f args, σ with
 | some r, [] => some (r, [])
 | some _, _ => none
 | none, σ => B f args σ
noncomputable def callBody (G : Cfg) (C : Oracle) (L : LoopOracle) : Oracle := callX G (callZ G (callBody0 G C L))
def loopBody (G : Cfg) (C : Oracle) (L : LoopOracle) (f : FuncId) (b : Code) (s : St) : Option (Ex × St) :=
 match evCode G C L f b s with
 | some (.normal, s') => (head (G.hint f (firstRegion b)) s').bind (L f b)
 | r => r
mutual
noncomputable def callN (G : Cfg) : Nat → Oracle
 | 0 => fun _ _ _ => none
 | k + 1 => callBody G (callN G k) (loopN G k)
noncomputable def loopN (G : Cfg) : Nat → LoopOracle
 | 0 => fun _ _ _ => none
 | k + 1 => loopBody G (callN G k) (loopN G k)
end
end Go.Ev
namespace Go.Ev
open Go
section
variable {G : Cfg}
def OLe {α : Type} (a b : Option α) : Prop := ∀ r, a = some r → b = some r
def CLe (C C' : Oracle) : Prop := ∀ f a σ, OLe (C f a σ) (C' f a σ)
def LLe (L L' : LoopOracle) : Prop := ∀ f b s, OLe (L f b s) (L' f b s)
theorem callIn_mono {C C' : Oracle} (h : CLe C C') (σ : Store) (f : FuncId) (args : List AV) (t : Nat) (N : Names) : OLe (callIn G C σ f args t N) (callIn G C' σ f args t N) := by
 intro r hr
 unfold callIn at hr ⊢
 split at hr
 ·cases hr
 ·rename_i hN
  rw [if_neg hN]
  obtain ⟨p, hp, hr⟩ := Option.bind_eq_some_iff.1 hr
  rw [hp, Option.bind_some]
  split at hr
  ·cases hr
  ·rename_i hc
   rw [if_neg hc]
   obtain ⟨q, hq, hr⟩ := Option.bind_eq_some_iff.1 hr
   rw [h _ _ _ _ hq, Option.bind_some]
   exact hr
theorem callA_mono {C C' : Oracle} (h : CLe C C') (σ : Store) (f : FuncId) (args : List AV) (t : Nat) : OLe (callA G C σ f args t) (callA G C' σ f args t) := by
 intro r hr
 unfold callA at hr ⊢
 obtain ⟨e, he, rfl⟩ := Option.map_eq_some_iff.1 hr
 rw [callIn_mono h σ f args t _ e he]
 rfl
theorem evCallee_mono {C C' : Oracle} (h : CLe C C') (σ : Store) (x : AV) (args : List AV) (t : Nat) : OLe (evCallee G C σ x args t) (evCallee G C' σ x args t) := by
 intro r hr
 cases x with
 | clo g caps =>
  simp only [evCallee] at hr ⊢
  split at hr
  ·split at hr
   ·cases hr
   ·rename_i hb
    rw [if_neg hb]
    exact callA_mono h _ _ _ _ _ hr
  ·cases hr
 | _ => simp [evCallee] at hr
theorem evCall_mono {C C' : Oracle} (h : CLe C C') (σ : Store) (ts : List AV) (c : Call) (t : Nat) : OLe (evCall G C σ ts c t) (evCall G C' σ ts c t) := by
 intro r hr
 unfold evCall at hr ⊢
 cases hc : c.callee with
 | value x => rw [hc] at hr; exact evCallee_mono h _ _ _ _ _ hr
 | builtin b => rw [hc] at hr; exact hr
 | invoke a b => rw [hc] at hr; cases hr
theorem evOp_mono {C C' : Oracle} (h : CLe C C') (f : FuncId) (ts : List AV) (σ : Store) (o : Oper) : OLe (evOp G C f ts σ o) (evOp G C' f ts σ o) := by
 intro r hr
 unfold evOp at hr ⊢
 cases ho : o.op with
 | call c => rw [ho] at hr; exact evCall_mono h _ _ _ _ _ hr
 | _ => rw [ho] at hr; exact hr
theorem evOps_mono {C C' : Oracle} (h : CLe C C') (f : FuncId) (ops l : List Oper) : ∀ s, OLe (evOps G C f ops l s) (evOps G C' f ops l s) := by
 induction l with
 | nil => intro s r hr; exact hr
 | cons o l ih =>
  intro s r hr
  unfold evOps at hr ⊢
  split at hr
  ·rename_i hw
   split at hr
   ·rename_i e he
    rw [evOp_mono h _ _ _ _ _ he]
    dsimp only
    split at hr
    ·rename_i x tr hx
     rw [ih _ _ hx]
     exact hr
    ·cases hr
   ·cases hr
  ·split at hr
   ·rename_i x tr hx
    rw [ih _ _ hx]
    exact hr
   ·cases hr
  ·cases hr
theorem evStep_mono {C C' : Oracle} (h : CLe C C') (f : FuncId) (ops : Array Oper) (i : Nat) (s : St) : OLe (evStep G C f ops i s) (evStep G C' f ops i s) := by
 intro r hr
 unfold evStep at hr ⊢
 split at hr
 ·exact hr
 ·split at hr
  ·obtain ⟨e, he, hr⟩ := Option.map_eq_some_iff.1 hr
   rw [evOp_mono h _ _ _ _ _ he]
   exact congrArg some hr
  ·exact hr
  ·cases hr
theorem evF_mono {C C' : Oracle} (h : CLe C C') (f : FuncId) (ops : Array Oper) : ∀ (p : List Nat) (Ws : List (Nat × List Id × List Id)) (s : St), OLe (evF G C f ops p Ws s) (evF G C' f ops p Ws s)
 | [], _, _, _, hr => hr
 | i :: p, Ws, s, r, hr => by
  simp only [evF] at hr ⊢
  obtain ⟨q, hq, hr⟩ := Option.bind_eq_some_iff.1 hr
  rw [evStep_mono h _ _ _ _ _ hq, Option.bind_some]
  split at hr
  ·rename_i hw
   rw [if_pos hw]
   exact evF_mono h f ops p _ _ _ hr
  ·cases hr
theorem evRegion_mono {C C' : Oracle} (h : CLe C C') (f : FuncId) (ops : Array Oper) (d : Bool) (s : St) : OLe (evRegion G C f ops d s) (evRegion G C' f ops d s) := by
 intro r hr
 unfold evRegion at hr ⊢
 split at hr
 ·rename_i hd
  rw [if_pos hd]
  obtain ⟨p, hp, hr⟩ := Option.bind_eq_some_iff.1 hr
  rw [hp, Option.bind_some]
  exact evF_mono h _ _ _ _ _ _ hr
 ·rename_i hd
  rw [if_neg hd]
  obtain ⟨x, hx, hr⟩ := Option.map_eq_some_iff.1 hr
  rw [evOps_mono h _ _ _ _ _ hx]
  exact congrArg some hr
theorem evCode_mono {C C' : Oracle} {L L' : LoopOracle} (h : CLe C C') (hL : LLe L L') (f : FuncId) (c : Code) : ∀ s, OLe (evCode G C L f c s) (evCode G C' L' f c s) := by
 induction c with
 | region id ops d =>
  intro s r hr
  unfold evCode at hr ⊢
  obtain ⟨x, hx, hr⟩ := Option.map_eq_some_iff.1 hr
  rw [evRegion_mono h _ _ _ _ _ hx]
  exact congrArg some hr
 | seq a b iha ihb =>
  intro s r hr
  unfold evCode at hr ⊢
  split at hr
  ·rename_i s' hx
   rw [iha _ _ hx]
   exact ihb _ _ hr
  ·rename_i hne
   rw [iha _ _ hr]
   split
   ·rename_i s' hx
    rw [← hr] at hx
    exact absurd hx (by intro hh; exact hne s' hh)
   ·rfl
 | cond c x y ihx ihy =>
  intro s r hr
  unfold evCode at hr ⊢
  split at hr
  ·rename_i q hq
   split at hr
   ·rename_i hb; subst hb; exact ihx _ _ hr
   ·rename_i hb; rw [if_neg hb]; exact ihy _ _ hr
  ·cases hr
 | block id b ih =>
  intro s r hr
  unfold evCode at hr ⊢
  split at hr
  ·rename_i i s' hx
   rw [ih _ _ hx]
   exact hr
  ·rename_i hne
   rw [ih _ _ hr]
   split
   ·rename_i i s' hx
    rw [← hr] at hx
    exact absurd hx (by intro hh; exact hne i s' hh)
   ·rfl
 | loop b _ =>
  intro s r hr
  unfold evCode at hr ⊢
  obtain ⟨s1, h1, hr⟩ := Option.bind_eq_some_iff.1 hr
  rw [h1, Option.bind_some]
  exact hL _ _ _ _ hr
 | scope b ih =>
  intro s r hr
  unfold evCode at hr ⊢
  exact ih _ _ hr
 | _ => intro s r hr; unfold evCode at hr ⊢; exact hr
theorem callBody0_mono {C C' : Oracle} {L L' : LoopOracle} (h : CLe C C') (hL : LLe L L') : CLe (callBody0 G C L) (callBody0 G C' L') := by
 intro f a σ r hr
 unfold callBody0 at hr ⊢
 split at hr
 ·split at hr
  ·split at hr
   ·rename_i s hx
    rw [evCode_mono h hL _ _ _ _ hx]
    exact hr
   ·rename_i s hx
    rw [evCode_mono h hL _ _ _ _ hx]
    exact hr
   ·cases hr
  ·cases hr
 ·cases hr
theorem callZ_mono {B B' : Oracle} (h : CLe B B') : CLe (callZ G B) (callZ G B') := by
 intro f a σ r hr
 unfold callZ at hr ⊢
 split at hr
 ·rename_i hh
  split at hr
  ·rename_i hb
   rw [if_pos fun h0 => by rw [h _ _ _ _ hr, h _ _ _ _ ((hb h0).trans hr)]]
   exact h _ _ _ _ hr
  ·cases hr
 ·rename_i hh
  split at hr
  ·rename_i hb
   rw [if_pos (by rw [h _ _ _ _ hr, h _ _ _ _ (hb.trans hr)])]
   exact h _ _ _ _ hr
  ·cases hr
 ·exact h _ _ _ _ hr
theorem callX_mono {B B' : Oracle} (h : CLe B B') : CLe (callX G B) (callX G B') := by
 intro f a σ r hr
 unfold callX at hr ⊢
 split at hr
 ·exact hr
 ·cases hr
 ·exact h _ _ _ _ hr
theorem callBody_mono {C C' : Oracle} {L L' : LoopOracle} (h : CLe C C') (hL : LLe L L') : CLe (callBody G C L) (callBody G C' L') := callX_mono (callZ_mono (callBody0_mono h hL))
theorem loopBody_mono {C C' : Oracle} {L L' : LoopOracle} (h : CLe C C') (hL : LLe L L') : LLe (loopBody G C L) (loopBody G C' L') := by
 intro f b s r hr
 unfold loopBody at hr ⊢
 split at hr
 ·rename_i s' hx
  rw [evCode_mono h hL _ _ _ _ hx]
  obtain ⟨s1, h1, hr⟩ := Option.bind_eq_some_iff.1 hr
  simp only [h1, Option.bind_some]
  exact hL _ _ _ _ hr
 ·rename_i hne
  rw [evCode_mono h hL _ _ _ _ hr]
  split
  ·rename_i s' hx
   rw [← hr] at hx
   exact absurd hx (by intro hh; exact hne s' hh)
  ·rfl
theorem step_mono (k : Nat) : CLe (callN G k) (callN G (k + 1)) ∧ LLe (loopN G k) (loopN G (k + 1)) := by
 induction k with
 | zero => exact ⟨fun _ _ _ r h => by simp [callN] at h, fun _ _ _ r h => by simp [loopN] at h⟩
 | succ k ih =>
  refine ⟨?_, ?_⟩
  ·unfold callN; exact callBody_mono ih.1 ih.2
  ·unfold loopN; exact loopBody_mono ih.1 ih.2
theorem call_le {k k' : Nat} (h : k ≤ k') : CLe (callN G k) (callN G k') := by
 induction h with
 | refl => exact fun _ _ _ _ h => h
 | step _ ih => exact fun f a σ r h => (step_mono _).1 f a σ r (ih f a σ r h)
theorem loop_le {k k' : Nat} (h : k ≤ k') : LLe (loopN G k) (loopN G k') := by
 induction h with
 | refl => exact fun _ _ _ _ h => h
 | step _ ih => exact fun f a s r h => (step_mono _).2 f a s r (ih f a s r h)
noncomputable def lim {α : Type} (g : Nat → Option α) : Option α := by
 classical exact if h : ∃ r k, g k = some r then some (Classical.choose h) else none
theorem lim_some {α : Type} {g : Nat → Option α} (hm : ∀ k, OLe (g k) (g (k + 1))) {r : α} : lim g = some r ↔ ∃ k, g k = some r := by
 have hmm : ∀ k k', k ≤ k' → OLe (g k) (g k') := by
  intro k k' h
  induction h with
  | refl => exact fun _ h => h
  | step _ ih => exact fun r h => hm _ r (ih r h)
 have huniq : ∀ k k' r r', g k = some r → g k' = some r' → r = r' := by
  intro k k' r r' h h'
  have h1 := hmm k (max k k') (Nat.le_max_left _ _) r h
  have h2 := hmm k' (max k k') (Nat.le_max_right _ _) r' h'
  rw [h1] at h2
  exact Option.some.inj h2
 unfold lim
 constructor
 ·intro h
  split at h
  ·rename_i hex
   have := Classical.choose_spec hex
   obtain ⟨k, hk⟩ := this
   cases h
   exact ⟨k, hk⟩
  ·cases h
 ·rintro ⟨k, hk⟩
  have hex : ∃ r k, g k = some r := ⟨r, k, hk⟩
  rw [dif_pos hex]
  obtain ⟨k', hk'⟩ := Classical.choose_spec hex
  rw [huniq _ _ _ _ hk' hk]
noncomputable def call (G : Cfg) : Oracle := fun f a σ => lim fun k => callN G k f a σ
noncomputable def loop (G : Cfg) : LoopOracle := fun f b s => lim fun k => loopN G k f b s
theorem call_some {f : FuncId} {a : List AV} {σ : Store} {r : AV × Store} : call G f a σ = some r ↔ ∃ k, callN G k f a σ = some r :=
 lim_some fun k => (step_mono k).1 _ _ _
theorem loop_some {f : FuncId} {b : Code} {s : St} {r : Ex × St} : loop G f b s = some r ↔ ∃ k, loopN G k f b s = some r :=
 lim_some fun k => (step_mono k).2 _ _ _
theorem callIn_cont (σ : Store) (f : FuncId) (args : List AV) (t : Nat) (N : Names) (r : Eff) (h : callIn G (call G) σ f args t N = some r) : ∃ k, callIn G (callN G k) σ f args t N = some r := by
 unfold callIn at h
 split at h
 ·cases h
 ·rename_i hN
  obtain ⟨p, hp, h⟩ := Option.bind_eq_some_iff.1 h
  split at h
  ·cases h
  ·rename_i hc
   obtain ⟨q, hq, h⟩ := Option.bind_eq_some_iff.1 h
   obtain ⟨k, hk⟩ := call_some.1 hq
   refine ⟨k, ?_⟩
   unfold callIn
   rw [if_neg hN, hp, Option.bind_some, if_neg hc, hk, Option.bind_some]
   exact h
theorem callA_cont (σ : Store) (f : FuncId) (args : List AV) (t : Nat) (r : Eff) (h : callA G (call G) σ f args t = some r) : ∃ k, callA G (callN G k) σ f args t = some r := by
 unfold callA at h
 obtain ⟨e, he, rfl⟩ := Option.map_eq_some_iff.1 h
 obtain ⟨k, hk⟩ := callIn_cont _ _ _ _ _ _ he
 exact ⟨k, by unfold callA; rw [hk]; rfl⟩
theorem evCallee_cont (σ : Store) (x : AV) (args : List AV) (t : Nat) (r : Eff) (h : evCallee G (call G) σ x args t = some r) : ∃ k, evCallee G (callN G k) σ x args t = some r := by
 cases x with
 | clo g caps =>
  simp only [evCallee] at h ⊢
  split at h
  ·split at h
   ·cases h
   ·rename_i hb
    obtain ⟨k, hk⟩ := callA_cont _ _ _ _ _ h
    exact ⟨k, by rw [if_neg hb]; exact hk⟩
  ·cases h
 | _ => simp [evCallee] at h
theorem evCall_cont (σ : Store) (ts : List AV) (c : Call) (t : Nat) (r : Eff) (h : evCall G (call G) σ ts c t = some r) : ∃ k, evCall G (callN G k) σ ts c t = some r := by
 unfold evCall at h ⊢
 cases hc : c.callee with
 | value x => rw [hc] at h; exact evCallee_cont _ _ _ _ _ h
 | builtin b => rw [hc] at h; exact ⟨0, h⟩
 | invoke a b => rw [hc] at h; cases h
theorem evOp_cont (f : FuncId) (ts : List AV) (σ : Store) (o : Oper) (r : Eff) (h : evOp G (call G) f ts σ o = some r) : ∃ k, evOp G (callN G k) f ts σ o = some r := by
 unfold evOp at h ⊢
 cases ho : o.op with
 | call c => rw [ho] at h; exact evCall_cont _ _ _ _ _ h
 | _ => rw [ho] at h; exact ⟨0, h⟩
theorem evOps_cont (f : FuncId) (ops l : List Oper) : ∀ s r, evOps G (call G) f ops l s = some r → ∃ k, evOps G (callN G k) f ops l s = some r := by
 induction l with
 | nil => intro s r h; exact ⟨0, h⟩
 | cons o l ih =>
  intro s r h
  unfold evOps at h
  split at h
  ·rename_i hw
   split at h
   ·rename_i e he
    split at h
    ·rename_i x tr hx
     obtain ⟨k1, h1⟩ := evOp_cont _ _ _ _ _ he
     obtain ⟨k2, h2⟩ := ih _ _ hx
     refine ⟨max k1 k2, ?_⟩
     unfold evOps
     rw [hw]
     dsimp only
     rw [evOp_mono (call_le (Nat.le_max_left k1 k2)) _ _ _ _ _ h1]
     dsimp only
     rw [evOps_mono (call_le (Nat.le_max_right k1 k2)) _ _ _ _ _ h2]
     exact h
    ·cases h
   ·cases h
  ·rename_i hw
   split at h
   ·rename_i x tr hx
    obtain ⟨k2, h2⟩ := ih _ _ hx
    refine ⟨k2, ?_⟩
    unfold evOps
    rw [hw]
    dsimp only
    rw [h2]
    exact h
   ·cases h
  ·cases h
theorem evStep_cont (f : FuncId) (ops : Array Oper) (i : Nat) (s : St) (r : St × List Id × List Id) (h : evStep G (call G) f ops i s = some r) : ∃ k, evStep G (callN G k) f ops i s = some r := by
 unfold evStep at h
 split at h
 ·rename_i ho
  exact ⟨0, by unfold evStep; rw [ho]; exact h⟩
 ·rename_i o ho
  split at h
  ·rename_i hw
   obtain ⟨e, he, h⟩ := Option.map_eq_some_iff.1 h
   obtain ⟨k, hk⟩ := evOp_cont _ _ _ _ _ he
   exact ⟨k, by unfold evStep; simp only [ho, hw, hk, Option.map_some]; exact congrArg some h⟩
  ·rename_i hw
   exact ⟨0, by unfold evStep; simp only [ho, hw]; exact h⟩
  ·cases h
theorem evF_cont (f : FuncId) (ops : Array Oper) : ∀ (p : List Nat) (Ws : List (Nat × List Id × List Id)) (s r : St), evF G (call G) f ops p Ws s = some r → ∃ k, evF G (callN G k) f ops p Ws s = some r
 | [], _, _, _, h => ⟨0, h⟩
 | i :: p, Ws, s, r, h => by
  simp only [evF] at h
  obtain ⟨q, hq, h⟩ := Option.bind_eq_some_iff.1 h
  obtain ⟨k1, hk1⟩ := evStep_cont _ _ _ _ _ hq
  split at h
  ·rename_i hw
   obtain ⟨k2, hk2⟩ := evF_cont f ops p _ _ _ h
   refine ⟨max k1 k2, ?_⟩
   simp only [evF]
   rw [evStep_mono (call_le (Nat.le_max_left k1 k2)) _ _ _ _ _ hk1, Option.bind_some, if_pos hw]
   exact evF_mono (call_le (Nat.le_max_right k1 k2)) _ _ _ _ _ _ hk2
  ·cases h
theorem evRegion_cont (f : FuncId) (ops : Array Oper) (d : Bool) (s r : St) (h : evRegion G (call G) f ops d s = some r) : ∃ k, evRegion G (callN G k) f ops d s = some r := by
 unfold evRegion at h
 split at h
 ·rename_i hd
  obtain ⟨p, hp, h⟩ := Option.bind_eq_some_iff.1 h
  obtain ⟨k, hk⟩ := evF_cont _ _ _ _ _ _ h
  exact ⟨k, by unfold evRegion; rw [if_pos hd, hp, Option.bind_some]; exact hk⟩
 ·rename_i hd
  obtain ⟨x, hx, h⟩ := Option.map_eq_some_iff.1 h
  obtain ⟨k, hk⟩ := evOps_cont _ _ _ _ _ hx
  exact ⟨k, by unfold evRegion; rw [if_neg hd, hk]; exact congrArg some h⟩
theorem evCode_cont (f : FuncId) (c : Code) : ∀ s r, evCode G (call G) (loop G) f c s = some r → ∃ k, evCode G (callN G k) (loopN G k) f c s = some r := by
 induction c with
 | region id ops d =>
  intro s r h
  unfold evCode at h
  obtain ⟨x, hx, h⟩ := Option.map_eq_some_iff.1 h
  obtain ⟨k, hk⟩ := evRegion_cont _ _ _ _ _ hx
  exact ⟨k, by unfold evCode; rw [hk]; exact congrArg some h⟩
 | seq a b iha ihb =>
  intro s r h
  unfold evCode at h
  split at h
  ·rename_i s' hx
   obtain ⟨k1, h1⟩ := iha _ _ hx
   obtain ⟨k2, h2⟩ := ihb _ _ h
   refine ⟨max k1 k2, ?_⟩
   unfold evCode
   rw [evCode_mono (call_le (Nat.le_max_left k1 k2)) (loop_le (Nat.le_max_left k1 k2)) _ _ _ _ h1]
   exact evCode_mono (call_le (Nat.le_max_right k1 k2)) (loop_le (Nat.le_max_right k1 k2)) _ _ _ _ h2
  ·rename_i hne
   obtain ⟨k1, h1⟩ := iha _ _ h
   refine ⟨k1, ?_⟩
   unfold evCode
   rw [h1]
   split
   ·rename_i s' hx
    rw [← h] at hx
    exact absurd hx (by intro hh; exact hne s' hh)
   ·rfl
 | cond c x y ihx ihy =>
  intro s r h
  unfold evCode at h
  split at h
  ·rename_i q hq
   split at h
   ·rename_i hb
    obtain ⟨k, hk⟩ := ihx _ _ h
    exact ⟨k, by unfold evCode; rw [hq]; dsimp only; rw [if_pos hb]; exact hk⟩
   ·rename_i hb
    obtain ⟨k, hk⟩ := ihy _ _ h
    exact ⟨k, by unfold evCode; rw [hq]; dsimp only; rw [if_neg hb]; exact hk⟩
  ·cases h
 | block id b ih =>
  intro s r h
  unfold evCode at h
  split at h
  ·rename_i i s' hx
   obtain ⟨k, hk⟩ := ih _ _ hx
   exact ⟨k, by unfold evCode; rw [hk]; exact h⟩
  ·rename_i hne
   obtain ⟨k, hk⟩ := ih _ _ h
   refine ⟨k, ?_⟩
   unfold evCode
   rw [hk]
   split
   ·rename_i i s' hx
    rw [← h] at hx
    exact absurd hx (by intro hh; exact hne i s' hh)
   ·rfl
 | loop b _ =>
  intro s r h
  unfold evCode at h
  obtain ⟨s1, h1, h⟩ := Option.bind_eq_some_iff.1 h
  obtain ⟨k, hk⟩ := loop_some.1 h
  exact ⟨k, by unfold evCode; rw [h1, Option.bind_some]; exact hk⟩
 | scope b ih =>
  intro s r h
  unfold evCode at h
  obtain ⟨k, hk⟩ := ih _ _ h
  exact ⟨k, by unfold evCode; exact hk⟩
 | _ => intro s r h; unfold evCode at h; exact ⟨0, by unfold evCode; exact h⟩
theorem callN_le_call (k : Nat) : CLe (callN G k) (call G) := fun _ _ _ r h => call_some.2 ⟨k, h⟩
theorem loopN_le_loop (k : Nat) : LLe (loopN G k) (loop G) := fun _ _ _ r h => loop_some.2 ⟨k, h⟩
theorem opt_eq {α : Type} {a b : Option α} (h : ∀ r, a = some r ↔ b = some r) : a = b := by
 cases a with
 | none => cases b with
  | none => rfl
  | some y => exact absurd ((h y).2 rfl) (by simp)
 | some x => exact ((h x).1 rfl).symm
theorem callBody0_cont (f : FuncId) (a : List AV) (σ : Store) (r : AV × Store) (h : callBody0 G (call G) (loop G) f a σ = some r) : ∃ k, callBody0 G (callN G k) (loopN G k) f a σ = some r := by
 unfold callBody0 at h
 split at h
 ·rename_i fn hf
  split at h
  ·rename_i c hc
   split at h
   ·rename_i s hx
    obtain ⟨k, hk⟩ := evCode_cont _ _ _ _ hx
    exact ⟨k, by unfold callBody0; rw [hf]; dsimp only; rw [hc]; dsimp only; rw [hk]; exact h⟩
   ·rename_i s hx
    obtain ⟨k, hk⟩ := evCode_cont _ _ _ _ hx
    exact ⟨k, by unfold callBody0; rw [hf]; dsimp only; rw [hc]; dsimp only; rw [hk]; exact h⟩
   ·cases h
  ·cases h
 ·cases h
theorem callZ_cont (f : FuncId) (a : List AV) (σ : Store) (r : AV × Store) (h : callZ G (callBody0 G (call G) (loop G)) f a σ = some r) : ∃ k, callZ G (callBody0 G (callN G k) (loopN G k)) f a σ = some r := by
 have two : ∀ (a b : List AV), callBody0 G (call G) (loop G) f a σ = some r → callBody0 G (call G) (loop G) f b σ = some r → ∃ k, callBody0 G (callN G k) (loopN G k) f a σ = some r ∧ callBody0 G (callN G k) (loopN G k) f b σ = some r := fun a b ha hb => by
  obtain ⟨k1, h1⟩ := callBody0_cont _ _ _ _ ha
  obtain ⟨k2, h2⟩ := callBody0_cont _ _ _ _ hb
  exact ⟨max k1 k2, callBody0_mono (call_le (Nat.le_max_left k1 k2)) (loop_le (Nat.le_max_left k1 k2)) _ _ _ _ h1, callBody0_mono (call_le (Nat.le_max_right k1 k2)) (loop_le (Nat.le_max_right k1 k2)) _ _ _ _ h2⟩
 unfold callZ at h ⊢
 split at h
 ·rename_i hh
  split at h
  ·rename_i hb
   rename_i n xs
   by_cases hn : n = 0
   ·obtain ⟨k, k1, k2⟩ := two _ _ h ((hb hn).trans h)
    exact ⟨k, by rw [if_pos fun _ => by rw [k1, k2]]; exact k1⟩
   ·obtain ⟨k, k1⟩ := callBody0_cont _ _ _ _ h
    exact ⟨k, by rw [if_pos fun h => absurd h hn]; exact k1⟩
  ·cases h
 ·rename_i hh
  split at h
  ·rename_i hb
   obtain ⟨k, k1, k2⟩ := two _ _ h (hb.trans h)
   exact ⟨k, by rw [if_pos (by rw [k1, k2])]; exact k1⟩
  ·cases h
 ·obtain ⟨k, k1⟩ := callBody0_cont _ _ _ _ h
  exact ⟨k, k1⟩
theorem callBody_cont (f : FuncId) (a : List AV) (σ : Store) (r : AV × Store) (h : callBody G (call G) (loop G) f a σ = some r) : ∃ k, callBody G (callN G k) (loopN G k) f a σ = some r := by
 unfold callBody callX at h ⊢
 split at h
 ·exact ⟨0, h⟩
 ·cases h
 ·exact callZ_cont _ _ _ _ h
theorem call_eq (f : FuncId) (a : List AV) (σ : Store) : call G f a σ = callBody G (call G) (loop G) f a σ := by
 refine opt_eq fun r => ⟨fun h => ?_, fun h => ?_⟩
 ·obtain ⟨k, hk⟩ := call_some.1 h
  have := (step_mono k).1 _ _ _ _ hk
  unfold callN at this
  exact callBody_mono (callN_le_call k) (loopN_le_loop k) _ _ _ _ this
 ·obtain ⟨k, hk⟩ := callBody_cont _ _ _ _ h
  exact call_some.2 ⟨k + 1, by unfold callN; exact hk⟩
theorem loop_eq (f : FuncId) (b : Code) (s : St) : loop G f b s = loopBody G (call G) (loop G) f b s := by
 refine opt_eq fun r => ⟨fun h => ?_, fun h => ?_⟩
 ·obtain ⟨k, hk⟩ := loop_some.1 h
  have := (step_mono k).2 _ _ _ _ hk
  unfold loopN at this
  exact loopBody_mono (callN_le_call k) (loopN_le_loop k) _ _ _ _ this
 ·unfold loopBody at h
  split at h
  ·rename_i s' hx
   obtain ⟨k1, h1⟩ := evCode_cont _ _ _ _ hx
   obtain ⟨s1, hs1, h⟩ := Option.bind_eq_some_iff.1 h
   obtain ⟨k2, h2⟩ := loop_some.1 h
   refine loop_some.2 ⟨max k1 k2 + 1, ?_⟩
   unfold loopN loopBody
   rw [evCode_mono (call_le (Nat.le_max_left k1 k2)) (loop_le (Nat.le_max_left k1 k2)) _ _ _ _ h1]
   simp only [hs1, Option.bind_some]
   exact loop_le (Nat.le_max_right k1 k2) _ _ _ _ h2
  ·rename_i hne
   obtain ⟨k1, h1⟩ := evCode_cont _ _ _ _ h
   refine loop_some.2 ⟨k1 + 1, ?_⟩
   unfold loopN loopBody
   rw [h1]
   split
   ·rename_i s' hx
    rw [← h] at hx
    exact absurd hx (by intro hh; exact hne s' hh)
   ·rfl
end
end Go.Ev
namespace Go.Ev
open Go Go.RowKit
abbrev Key := Id × Option Nat
structure Cx where
 m : Key → Option (Option (Nat × Nat × Nat))
 kn : Id → Prop
 S : Nat → Prop
 base : Nat
def Cx.at_ (c : Cx) (b : Nat) : Prop := ∃ k sh e, c.m k = some (some (b, sh, e))
def Cx.ok (c : Cx) (w : World) (b : Nat) : Prop := c.S b ∨ (c.base ≤ b ∧ b < w.heap.size ∧ ¬ c.at_ b)
def NN (e : Nat) (A : Option Addr) (n : Nat) : Prop := (A = none → n = 0 ∧ e ≠ 2) ∧ (e = 1 → A = none)
theorem NN.of {A : Option Addr} {n : Nat} (h : A = none → n = 0) : NN 0 A n := ⟨fun hA => ⟨h hA, by decide⟩, fun h => by cases h⟩
theorem NN.z {e : Nat} {A : Option Addr} {n : Nat} (h : NN e A n) : A = none → n = 0 := fun hA => (h.1 hA).1
mutual
def VC (ok : Nat → Prop) (w : World) : AV → Value → Prop
 | .sc x, v => v = x ∧ x.oneCell' = true
 | .sl e n xs, v => ∃ A k, v = .slice A n k ∧ n ≤ k ∧ NN e A n ∧ (xs = [] ∨ ∃ b off, A = some ⟨b, off, none⟩ ∧ ok b ∧ VCs ok w xs b off)
 | .nst _ n _, v => ∃ A k, v = .slice A n k ∧ n ≤ k
 | .emp, v => ∃ A, v = .slice A 0 0
 | .junk, v => v.oneCell' = true
 | _, _ => False
def VCs (ok : Nat → Prop) (w : World) : List AV → Nat → Nat → Prop
 | [], _, _ => True
 | x :: r, b, off => (∃ v, w.cell? ⟨b, off, none⟩ = some v ∧ VC ok w x v) ∧ VCs ok w r b (off + 1)
end
mutual
def VR (c : Cx) (w : World) : AV → Value → Prop
 | .sc x, v => v = x
 | .own id sub off n cap, v => c.kn id ∧ ∃ A k, v = .slice A n k ∧ n ≤ k ∧ cap ≤ k ∧ (A = none → k = 0) ∧ (c.m (id, sub) = some none → k = 0) ∧
   ∀ b sh e, c.m (id, sub) = some (some (b, sh, e)) → (k = 0 ∨ A = some ⟨b, sh + off, none⟩) ∧ ∃ t z, w.shape? b = some (t, z) ∧ sh + off + k * e ≤ z
 | .ptr id sub off, v => c.kn id ∧ ∃ a, v = .pointer (some a) ∧ ∀ b sh e, c.m (id, sub) = some (some (b, sh, e)) → a = ⟨b, sh + off, none⟩
 | .iptr xs, v => ∃ a, v = .pointer (some a) ∧ (xs = [] ∨ (a.spot = none ∧ c.ok w a.block ∧ VCs (c.ok w) w xs a.block a.off))
 | .agg cs, v => ∃ vs, v = .agg vs ∧ VRt c w cs vs.toList ∧ ∀ u ∈ vs.toList, u.oneCell' = true
 | .tup cs, v => ∃ vs, v = .tuple vs ∧ VRt c w cs vs.toList
 | .clo f cs, v => ∃ vs, v = .func (.func f) #[] vs ∧ VRt c w cs vs.toList
 | .junk, _ => True
 | .sl e n xs, v => VC (c.ok w) w (.sl e n xs) v
 | .nst e n xs, v => VC (c.ok w) w (.nst e n xs) v
 | .emp, v => VC (c.ok w) w .emp v
def VRt (c : Cx) (w : World) : List AV → List Value → Prop
 | [], [] => True
 | x :: r, v :: q => VR c w x v ∧ VRt c w r q
 | _, _ => False
end
theorem VC_one {ok : Nat → Prop} {w : World} {x : AV} {v : Value} (h : VC ok w x v) : v.oneCell' = true := by
 cases x <;> simp only [VC] at h
 ·rw [h.1]; exact h.2
 ·obtain ⟨A, k, rfl, _⟩ := h; rfl
 ·obtain ⟨A, k, rfl, _⟩ := h; rfl
 ·obtain ⟨A, rfl⟩ := h; rfl
 ·exact h
theorem VCs_get {ok : Nat → Prop} {w : World} {xs : List AV} {b off : Nat} (h : VCs ok w xs b off) : ∀ (j : Nat) (x : AV), xs[j]? = some x → ∃ v, w.cell? ⟨b, off + j, none⟩ = some v ∧ VC ok w x v := by
 induction xs generalizing off with
 | nil => intro j x hx; simp at hx
 | cons y r ih =>
  intro j x hx
  simp only [VCs] at h
  cases j with
  | zero => simp at hx; subst hx; exact h.1
  | succ j =>
   simp at hx
   obtain ⟨v, hv, hx'⟩ := ih h.2 j x hx
   exact ⟨v, by rw [show off + (j + 1) = off + 1 + j by omega]; exact hv, hx'⟩
theorem VCs_mk {ok : Nat → Prop} {w : World} {xs : List AV} {b off : Nat} (h : ∀ (j : Nat) (x : AV), xs[j]? = some x → ∃ v, w.cell? ⟨b, off + j, none⟩ = some v ∧ VC ok w x v) : VCs ok w xs b off := by
 induction xs generalizing off with
 | nil => simp [VCs]
 | cons y r ih =>
  simp only [VCs]
  refine ⟨by simpa using h 0 y rfl, ih fun j x hx => ?_⟩
  obtain ⟨v, hv, hx'⟩ := h (j + 1) x (by simpa using hx)
  exact ⟨v, by rw [show off + 1 + j = off + (j + 1) by omega]; exact hv, hx'⟩
theorem VRt_length {c : Cx} {w : World} {xs : List AV} {vs : List Value} (h : VRt c w xs vs) : xs.length = vs.length := by
 induction xs generalizing vs with
 | nil => cases vs with
  | nil => rfl
  | cons => simp [VRt] at h
 | cons x r ih => cases vs with
  | nil => simp [VRt] at h
  | cons v q => simp only [VRt] at h; simp [ih h.2]
theorem VRt_get {c : Cx} {w : World} {xs : List AV} {vs : List Value} (h : VRt c w xs vs) : ∀ (j : Nat) (x : AV), xs[j]? = some x → ∃ v, vs[j]? = some v ∧ VR c w x v := by
 induction xs generalizing vs with
 | nil => intro j x hx; simp at hx
 | cons y r ih =>
  intro j x hx
  cases vs with
  | nil => simp [VRt] at h
  | cons v q =>
   simp only [VRt] at h
   cases j with
   | zero => simp at hx; subst hx; exact ⟨v, rfl, h.1⟩
   | succ j => simp at hx; obtain ⟨u, hu, hx'⟩ := ih h.2 j x hx; exact ⟨u, by simpa using hu, hx'⟩
theorem VRt_mk {c : Cx} {w : World} {xs : List AV} {vs : List Value} (hl : xs.length = vs.length) (h : ∀ (j : Nat) (x : AV) (v : Value), xs[j]? = some x → vs[j]? = some v → VR c w x v) : VRt c w xs vs := by
 induction xs generalizing vs with
 | nil => cases vs with
  | nil => simp [VRt]
  | cons => simp at hl
 | cons x r ih => cases vs with
  | nil => simp at hl
  | cons v q =>
   simp only [VRt]
   exact ⟨h 0 x v rfl rfl, ih (by simpa using hl) fun j y u hy hu => h (j + 1) y u (by simpa using hy) (by simpa using hu)⟩
structure Ext (c : Cx) (w : World) (c' : Cx) (w' : World) : Prop where
 base : c'.base = c.base
 S : c'.S = c.S
 size : w.heap.size ≤ w'.heap.size
 kn : ∀ id, c.kn id → c'.kn id
 m : ∀ id sub, c.kn id → c'.m (id, sub) = none ∨ c'.m (id, sub) = c.m (id, sub)
 new : ∀ b, c'.at_ b → c.at_ b ∨ w.heap.size ≤ b
 keep : ∀ b, b < w.heap.size → ¬ c.at_ b → w'.heap[b]? = w.heap[b]?
 shape : ∀ b, b < w.heap.size → w'.shape? b = w.shape? b
 os : w'.os = w.os
 tape : w'.tape = w.tape
 output : w'.output = w.output
theorem Ext.refl (c : Cx) (w : World) : Ext c w c w :=
 ⟨rfl, rfl, Nat.le_refl _, fun _ h => h, fun _ _ _ => .inr rfl, fun _ h => .inl h, fun _ _ _ => rfl, fun _ _ => rfl, rfl, rfl, rfl⟩
theorem Ext.trans {c c' c'' : Cx} {w w' w'' : World} (h : Ext c w c' w') (k : Ext c' w' c'' w'') : Ext c w c'' w'' where
 base := k.base.trans h.base
 S := k.S.trans h.S
 size := Nat.le_trans h.size k.size
 kn := fun id hi => k.kn id (h.kn id hi)
 m := fun id sub hi => by
  rcases k.m id sub (h.kn id hi) with e | e
  ·exact .inl e
  ·rw [e]; exact h.m id sub hi
 new := fun b hb => by
  rcases k.new b hb with e | e
  ·exact h.new b e
  ·exact .inr (Nat.le_trans h.size e)
 keep := fun b hb hn => by
  rw [k.keep b (Nat.lt_of_lt_of_le hb h.size) (fun hc => by
   rcases h.new b hc with e | e
   ·exact hn e
   ·omega)]
  exact h.keep b hb hn
 shape := fun b hb => (k.shape b (Nat.lt_of_lt_of_le hb h.size)).trans (h.shape b hb)
 os := k.os.trans h.os
 tape := k.tape.trans h.tape
 output := k.output.trans h.output
theorem Ext.ok {c c' : Cx} {w w' : World} (h : Ext c w c' w') {b : Nat} (hb : c.ok w b) : c'.ok w' b := by
 rcases hb with hs | ⟨h1, h2, h3⟩
 ·exact .inl (by rw [h.S]; exact hs)
 ·refine .inr ⟨by rw [h.base]; exact h1, Nat.lt_of_lt_of_le h2 h.size, fun hc => ?_⟩
  rcases h.new b hc with e | e
  ·exact h3 e
  ·omega
def Cx.Sok (c : Cx) (w : World) : Prop := ∀ b, c.ok w b → b < w.heap.size ∧ ¬ c.at_ b
theorem cell_of_heap {w w' : World} {b off : Nat} (h : w'.heap[b]? = w.heap[b]?) : w'.cell? ⟨b, off, none⟩ = w.cell? ⟨b, off, none⟩ := by
 unfold World.cell?
 simp only [h]
mutual
theorem VC_mono {ok ok' : Nat → Prop} {w w' : World} (hk : ∀ b, ok b → ok' b ∧ w'.heap[b]? = w.heap[b]?) : ∀ (x : AV) (v : Value), VC ok w x v → VC ok' w' x v
 | .sc _, _, h => by simpa only [VC] using h
 | .sl e n xs, v, h => by
  simp only [VC] at h ⊢
  obtain ⟨A, k, hv, hn, hA0, hx⟩ := h
  refine ⟨A, k, hv, hn, hA0, ?_⟩
  rcases hx with hx | ⟨b, off, hA, hb, hx⟩
  ·exact .inl hx
  ·exact .inr ⟨b, off, hA, (hk b hb).1, VCs_mono hk xs b off (hk b hb).2 hx⟩
 | .nst _ _ _, _, h => by simpa only [VC] using h
 | .emp, _, h => by simpa only [VC] using h
 | .junk, _, h => by simpa only [VC] using h
 | .own .., _, h => by simp only [VC] at h
 | .ptr .., _, h => by simp only [VC] at h
 | .iptr .., _, h => by simp only [VC] at h
 | .agg .., _, h => by simp only [VC] at h
 | .tup .., _, h => by simp only [VC] at h
 | .clo .., _, h => by simp only [VC] at h
theorem VCs_mono {ok ok' : Nat → Prop} {w w' : World} (hk : ∀ b, ok b → ok' b ∧ w'.heap[b]? = w.heap[b]?) : ∀ (xs : List AV) (b off : Nat), w'.heap[b]? = w.heap[b]? → VCs ok w xs b off → VCs ok' w' xs b off
 | [], _, _, _, _ => by simp only [VCs]
 | x :: r, b, off, hb, h => by
  simp only [VCs] at h ⊢
  obtain ⟨⟨v, hv, hx⟩, hr⟩ := h
  exact ⟨⟨v, by rw [cell_of_heap hb]; exact hv, VC_mono hk x v hx⟩, VCs_mono hk r b (off + 1) hb hr⟩
end
theorem VCs_cells {ok ok' : Nat → Prop} {w w' : World} (hk : ∀ b, ok b → ok' b ∧ w'.heap[b]? = w.heap[b]?) {xs : List AV} {b off b' off' : Nat} (h : VCs ok w xs b off)
  (hc : ∀ j v, j < xs.length → w.cell? ⟨b, off + j, none⟩ = some v → w'.cell? ⟨b', off' + j, none⟩ = some v) : VCs ok' w' xs b' off' :=
 VCs_mk fun j x hx => by
  obtain ⟨v, hv, hxv⟩ := VCs_get h j x hx
  exact ⟨v, hc j v (List.getElem?_eq_some_iff.1 hx).1 hv, VC_mono hk x v hxv⟩
theorem Ext.stable {c c' : Cx} {w w' : World} (h : Ext c w c' w') (hs : c.Sok w) : ∀ b, c.ok w b → c'.ok w' b ∧ w'.heap[b]? = w.heap[b]? :=
 fun b hb => ⟨h.ok hb, h.keep b (hs b hb).1 (hs b hb).2⟩
mutual
theorem VR_ext {c c' : Cx} {w w' : World} (h : Ext c w c' w') (hs : c.Sok w) (hlt : ∀ b, c.at_ b → b < w.heap.size) : ∀ (x : AV) (v : Value), VR c w x v → VR c' w' x v
 | .sc _, _, hx => by simpa only [VR] using hx
 | .own id sub off n cap, v, hx => by
  simp only [VR] at hx ⊢
  obtain ⟨hkn, A, k, hv, hn, hc, hA0, h0, hb⟩ := hx
  refine ⟨h.kn id hkn, A, k, hv, hn, hc, hA0, ?_, ?_⟩
  ·intro hm
   rcases h.m id sub hkn with e | e
   ·rw [e] at hm; cases hm
   ·exact h0 (e ▸ hm)
  ·intro b sh e hm
   rcases h.m id sub hkn with e' | e'
   ·rw [e'] at hm; cases hm
   ·rw [e'] at hm
    obtain ⟨hA, t, z, hz, hle⟩ := hb b sh e hm
    exact ⟨hA, t, z, by rw [h.shape b (hlt b ⟨_, _, _, hm⟩)]; exact hz, hle⟩
 | .ptr id sub off, v, hx => by
  simp only [VR] at hx ⊢
  obtain ⟨hkn, a, hv, hb⟩ := hx
  refine ⟨h.kn id hkn, a, hv, ?_⟩
  intro b sh e hm
  rcases h.m id sub hkn with e' | e'
  ·rw [e'] at hm; cases hm
  ·rw [e'] at hm; exact hb b sh e hm
 | .iptr xs, v, hx => by
  simp only [VR] at hx ⊢
  obtain ⟨a, hv, hb⟩ := hx
  refine ⟨a, hv, ?_⟩
  rcases hb with hb | ⟨h1, h2, h3⟩
  ·exact .inl hb
  ·exact .inr ⟨h1, h.ok h2, VCs_mono (h.stable hs) xs _ _ (h.stable hs _ h2).2 h3⟩
 | .agg cs, v, hx => by
  simp only [VR] at hx ⊢
  obtain ⟨vs, hv, hc, ho⟩ := hx
  exact ⟨vs, hv, VRt_ext h hs hlt cs _ hc, ho⟩
 | .tup cs, v, hx => by
  simp only [VR] at hx ⊢
  obtain ⟨vs, hv, hc⟩ := hx
  exact ⟨vs, hv, VRt_ext h hs hlt cs _ hc⟩
 | .clo f cs, v, hx => by
  simp only [VR] at hx ⊢
  obtain ⟨vs, hv, hc⟩ := hx
  exact ⟨vs, hv, VRt_ext h hs hlt cs _ hc⟩
 | .junk, _, _ => by simp only [VR]
 | .sl e n xs, v, hx => by simp only [VR] at hx ⊢; exact VC_mono (h.stable hs) _ _ hx
 | .nst e n xs, v, hx => by simp only [VR] at hx ⊢; exact VC_mono (h.stable hs) _ _ hx
 | .emp, v, hx => by simp only [VR] at hx ⊢; exact VC_mono (h.stable hs) _ _ hx
theorem VRt_ext {c c' : Cx} {w w' : World} (h : Ext c w c' w') (hs : c.Sok w) (hlt : ∀ b, c.at_ b → b < w.heap.size) : ∀ (xs : List AV) (vs : List Value), VRt c w xs vs → VRt c' w' xs vs
 | [], [], _ => by simp only [VRt]
 | x :: r, v :: q, hx => by
  simp only [VRt] at hx ⊢
  exact ⟨VR_ext h hs hlt x v hx.1, VRt_ext h hs hlt r q hx.2⟩
 | [], _ :: _, hx => by simp [VRt] at hx
 | _ :: _, [], hx => by simp [VRt] at hx
end
def Plain (w : World) (b : Nat) : Prop := ∃ cs t, w.heap[b]? = some (.cells cs t (0, 0))
def NstOk (c : Cx) (w : World) (id : Id) (p e n : Nat) (xs : List AV) (fr : Bool) (v : Value) : Prop :=
 ∃ A k, v = .slice A n k ∧ n ≤ k ∧ ((c.m (id, some p) = some none ∧ xs = [] ∧ k = 0) ∨
  ∃ b sh, c.m (id, some p) = some (some (b, sh, e)) ∧ A = some ⟨b, sh, none⟩ ∧ Plain w b ∧ (fr = true → c.base ≤ b) ∧
   (∃ t z, w.shape? b = some (t, z) ∧ sh + k * e ≤ z) ∧ VCs (c.ok w) w xs b sh)
def CellOk (c : Cx) (w : World) (id : Id) (blk : Blk) (p : Nat) (x : AV) (v : Value) : Prop :=
 v.oneCell' = true ∧ (if blk.arr then VC (c.ok w) w x v ∧ ∀ e n xs, x = .nst e n xs → NstOk c w id p e n xs blk.fr v else VR c w x v)
def BlkOk (c : Cx) (w : World) (id : Id) (blk : Blk) : Prop :=
 (c.m (id, none) = some none ∧ blk.cells = [] ∧ blk.arr = true) ∨
 ∃ b sh, c.m (id, none) = some (some (b, sh, blk.esz)) ∧ Plain w b ∧ (blk.fr = true → c.base ≤ b) ∧
  ∀ (j : Nat) (x : AV), blk.cells[j]? = some x → ∃ v, w.cell? ⟨b, sh + j, none⟩ = some v ∧ CellOk c w id blk j x v
structure Rel (G : Cfg) (c : Cx) (σ : Store) (w : World) : Prop where
 inj : ∀ k k' b sh e sh' e', c.m k = some (some (b, sh, e)) → c.m k' = some (some (b, sh', e')) → k = k'
 lt : ∀ b, c.at_ b → b < w.heap.size
 kn : ∀ id, c.kn id ↔ σ.has id = true
 dom : ∀ id sub, c.m (id, sub) ≠ none → ∃ blk, σ.get? id = some blk ∧ ∀ p, sub = some p → blk.arr = true ∧ ∃ e n xs, blk.cells[p]? = some (.nst e n xs)
 blk : ∀ id blk, σ.get? id = some blk → BlkOk c w id blk
 sS : ∀ b, c.S b → b < c.base ∧ ¬ c.at_ b
 base : c.base ≤ w.heap.size
 glob : ∀ g cs, G.glob g = some cs → c.S g ∧ VCs (c.ok w) w cs g 0
 know : ∀ v n xs, G.kn v = some (n, xs) → VC c.S w (.sl 0 n xs) v
theorem Rel.Sok {G : Cfg} {c : Cx} {σ : Store} {w : World} (h : Rel G c σ w) : c.Sok w := fun b hb => by
 rcases hb with hs | ⟨_, h2, h3⟩
 ·exact ⟨Nat.lt_of_lt_of_le (h.sS b hs).1 h.base, (h.sS b hs).2⟩
 ·exact ⟨h2, h3⟩
theorem Rel.knv {G : Cfg} {c : Cx} {σ : Store} {w : World} (h : Rel G c σ w) {x : AV} {v : Value} (hx : VR c w x v) : VR c w (knV G x) v := by
 unfold knV
 split
 ·rename_i A n k
  cases hk : G.kn (.slice A n k) with
  | none => exact hx
  | some p =>
   simp only [VR] at hx
   subst hx
   simp only [VR]
   exact VC_mono (fun b hb => ⟨.inl hb, rfl⟩) _ _ (h.know _ p.1 p.2 hk)
 ·exact hx
theorem know_ext {G : Cfg} {c c' : Cx} {σ : Store} {w w' : World} (h : Rel G c σ w) (hE : Ext c w c' w') : ∀ v n xs, G.kn v = some (n, xs) → VC c'.S w' (.sl 0 n xs) v := fun v n xs hk =>
 VC_mono (fun b hb => ⟨by rw [hE.S]; exact hb, (hE.stable h.Sok b (.inl hb)).2⟩) _ _ (h.know v n xs hk)
theorem Rel.vr {G : Cfg} {c c' : Cx} {σ : Store} {w w' : World} (h : Rel G c σ w) (k : Ext c w c' w') {x : AV} {v : Value} (hx : VR c w x v) : VR c' w' x v :=
 VR_ext k h.Sok h.lt x v hx
theorem Rel.vrt {G : Cfg} {c c' : Cx} {σ : Store} {w w' : World} (h : Rel G c σ w) (k : Ext c w c' w') {xs : List AV} {vs : List Value} (hx : VRt c w xs vs) : VRt c' w' xs vs :=
 VRt_ext k h.Sok h.lt xs vs hx
theorem Rel.stab {G : Cfg} {c c' : Cx} {σ : Store} {w w' : World} (h : Rel G c σ w) (k : Ext c w c' w') : ∀ b, c.ok w b → c'.ok w' b ∧ w'.heap[b]? = w.heap[b]? := k.stable h.Sok
end Go.Ev
namespace Go.Ev
open Go Go.RowKit
section
variable {G : Cfg} {c : Cx} {σ : Store} {w : World}
theorem VR_toAV (v : Value) : VR c w (toAV v) v := by
 unfold toAV
 split
 ·simp only [VR, VC]; exact ⟨_, rfl⟩
 ·simp only [VR]
theorem VRt_toAV (vs : List Value) : VRt c w (vs.map toAV) vs := by
 induction vs with
 | nil => simp [VRt]
 | cons v r ih => simp only [List.map_cons, VRt]; exact ⟨VR_toAV v, ih⟩
theorem VR_const (v : Value) : VR c w (constAV v) v := by
 unfold constAV
 split
 ·rename_i cs
  split
  ·rename_i h
   simp only [VR]
   exact ⟨cs, rfl, VRt_toAV _, fun u hu => List.all_eq_true.1 h u hu⟩
  ·simp only [VR]
 ·exact VR_toAV _
theorem VR_getD {ts : List AV} {tmps : Array Value} (h : VRt c w ts tmps.toList) (t : Nat) : VR c w (ts.getD t undefA) (tmps.getD t undef) := by
 rw [List.getD_eq_getElem?_getD]
 cases ht : ts[t]? with
 | none =>
  have hl := VRt_length h
  have : ts.length ≤ t := by simpa using ht
  have h2 : tmps.getD t undef = undef := by
   unfold Array.getD
   rw [dif_neg (by have : tmps.toList.length = tmps.size := Array.length_toList; omega)]
  rw [h2]
  simp only [Option.getD_none, VR]
 | some x =>
  obtain ⟨v, hv, hx⟩ := VRt_get h t x ht
  have h2 : tmps.getD t undef = v := by
   rw [Array.getD_eq_getD_getElem?, ← Array.getElem?_toList, hv]; rfl
  rw [h2]
  simpa using hx
theorem VR_opd (hr : Rel G c σ w) {ts : List AV} {a : Act} (h : VRt c w ts a.tmps.toList) (x : Operand) : VR c w (evOpd G ts x) (a.eval x) := by
 cases x with
 | tmp t => exact VR_getD h t
 | const v => exact VR_const v
 | global g =>
  show VR c w (match G.glob g with | some cs => .iptr cs | none => .junk) (.pointer (some ⟨g, 0, none⟩))
  cases hg : G.glob g with
  | none => simp only [VR]
  | some cs =>
   obtain ⟨h1, h2⟩ := hr.glob g cs hg
   simp only [VR]
   exact ⟨_, rfl, .inr ⟨rfl, .inl h1, h2⟩⟩
 | func f =>
  show VR c w (.clo f []) (.func (.func f) #[] #[])
  simp only [VR]
  exact ⟨#[], rfl, by simp [VRt]⟩
theorem VRt_opds (hr : Rel G c σ w) {ts : List AV} {a : Act} (h : VRt c w ts a.tmps.toList) (xs : List Operand) : VRt c w (xs.map (evOpd G ts)) (xs.map a.eval) := by
 induction xs with
 | nil => simp [VRt]
 | cons x r ih => simp only [List.map_cons, VRt]; exact ⟨VR_opd hr h x, ih⟩
theorem VR_sc {x : Value} {v : Value} : VR c w (.sc x) v ↔ v = x := by simp only [VR]
theorem szT_run {P : Program} {t : TypeId} {n : Nat} (h : szT P t = some n) (w : World) : (sizeOf t).run P w = .ok n w := by
 unfold szT at h
 obtain ⟨i, hi, hn⟩ := Option.map_eq_some_iff.1 h
 simp [sizeOf, typeInfo, hi, hn]
theorem aggT_run {P : Program} {t : TypeId} {g : Bool} (h : aggT P t = some g) (w : World) : (isAgg t).run P w = .ok g w := by
 unfold aggT at h
 obtain ⟨d, hd, hg⟩ := Option.map_eq_some_iff.1 h
 simp only [isAgg, Sem.run_bind, run_underlying hd, Result.andThen_ok]
 cases d <;> simp_all
theorem isBoolT_spec {P : Program} {t : TypeId} (h : isBoolT P t = true) : P.underlying t = some .bool := by
 unfold isBoolT at h
 split at h
 ·assumption
 ·cases h
theorem isStrT_spec {P : Program} {t : TypeId} (h : isStrT P t = true) : P.underlying t = some .string := by
 unfold isStrT at h
 split at h
 ·assumption
 ·cases h
theorem intT_spec {P : Program} {t : TypeId} {k : IntKind} (h : intT P t = some k) : P.underlying t = some (.int k) := by
 unfold intT at h
 split at h
 ·cases h; assumption
 ·cases h
theorem slT_spec {P : Program} {t e : TypeId} (h : slT P t = some e) : P.underlying t = some (.slice e) := by
 unfold slT at h
 split at h
 ·cases h; assumption
 ·cases h
theorem arT_spec {P : Program} {t e : TypeId} {n : Nat} (h : arT P t = some (n, e)) : P.underlying t = some (.array n e) := by
 unfold arT at h
 split at h
 ·cases h; assumption
 ·cases h
theorem fldT_spec {P : Program} {t ft : TypeId} {i off : Nat} (h : fldT P t i = some (ft, off)) : ∃ fs f, P.underlying t = some (.struct fs) ∧ fs[i]? = some f ∧ f.type = ft ∧ f.offset = off := by
 unfold fldT at h
 split at h
 ·rename_i fs hu
  obtain ⟨f, hf, he⟩ := Option.map_eq_some_iff.1 h
  cases he
  exact ⟨fs, f, hu, hf, rfl, rfl⟩
 ·cases h
theorem intBin_run {P : Program} {op : BinOp} {t : TypeId} {k : IntKind} {a b : Int} {r : Value} (h : intBin op k a b = some r) (w : World) :
  (binOp op t (.int k a) (.int k b)).run P w = .ok r w := by
 unfold intBin at h
 cases op <;> simp only at h <;> (try split at h) <;> simp_all [binOp, Op.intArith, Op.intDiv, Op.intBits, Op.intCmp]
theorem cmpStr_run {P : Program} {op : BinOp} {t : TypeId} {a b : ByteArray} {r : Value} (h : cmpStr op a b = some r) (w : World) :
  (binOp op t (.string a) (.string b)).run P w = .ok r w := by
 unfold cmpStr at h
 cases op <;> simp only at h <;> (try split at h) <;> simp_all [binOp, Op.stringOp]
 ·rename_i hle
  omega
theorem eqGuard_plain {P : Program} {op : BinOp} {t : TypeId} {x y : Operand} {a b : Value} (h1 : a ≠ .nilIface) (h2 : ∀ cs, a ≠ .agg cs) (w : World) :
  (eqGuard op t x y a b).run P w = .ok () w := by
 unfold eqGuard
 cases op <;> first
  | rfl
  | (cases a <;> first | rfl | exact absurd rfl h1 | exact absurd rfl (h2 _))
theorem evBin_run {P : Program} {op : BinOp} {t : TypeId} {x y : Operand} {p q r : AV} {a b : Value} (h : evBin P op t p q = some r) (hp : VR c w p a) (hq : VR c w q b) :
  ∃ v, ((do eqGuard op t x y a b; binOp op t a b) : Sem Value).run P w = .ok v w ∧ VR c w r v := by
 unfold evBin at h
 split at h
 ·rename_i k a' k' b'
  rw [VR_sc] at hp hq
  subst hp hq
  simp only [Sem.run_bind, eqGuard_plain (a := .int k a') (by simp) (by simp), Result.andThen_ok]
  split at h
  ·split at h
   ·cases h
   ·cases h
    rename_i hb
    exact ⟨_, by simp [binOp, Op.shift, hb]; rfl, by rw [VR_sc]⟩
  ·split at h
   ·cases h
   ·cases h
    rename_i hb
    exact ⟨_, by simp [binOp, Op.shift, hb]; rfl, by rw [VR_sc]⟩
  ·split at h
   ·rename_i hk
    subst hk
    obtain ⟨v, hv, rfl⟩ := Option.map_eq_some_iff.1 h
    exact ⟨v, intBin_run hv w, by rw [VR_sc]⟩
   ·cases h
 ·rename_i a' b'
  rw [VR_sc] at hp hq
  subst hp hq
  simp only [Sem.run_bind, eqGuard_plain (a := .string a') (by simp) (by simp), Result.andThen_ok]
  obtain ⟨v, hv, rfl⟩ := Option.map_eq_some_iff.1 h
  exact ⟨v, cmpStr_run hv w, by rw [VR_sc]⟩
 ·rename_i a' b'
  rw [VR_sc] at hp hq
  subst hp hq
  simp only [Sem.run_bind, eqGuard_plain (a := .bool a') (by simp) (by simp), Result.andThen_ok]
  split at h
  ·rename_i hb
   have hb' := isBoolT_spec hb
   split at h
   ·cases h
    exact ⟨_, by simp [binOp, Op.equal, Op.maxDepth, run_equalIn_bool' _ _ _ _ _ hb']; rfl, by rw [VR_sc]⟩
   ·cases h
    exact ⟨_, by simp [binOp, Op.equal, Op.maxDepth, run_equalIn_bool' _ _ _ _ _ hb']; rfl, by rw [VR_sc]⟩
   ·cases h
  ·cases h
 ·cases h
theorem evUn_run {P : Program} {op : UnOp} {p r : AV} {a : Value} (h : evUn op p = some r) (hp : VR c w p a) : ∃ v, (Op.unary op a).run P w = .ok v w ∧ VR c w r v := by
 unfold evUn at h
 split at h
 ·rw [VR_sc] at hp; subst hp; cases h
  exact ⟨_, by simp only [Op.unary, Op.intArith]; rfl, by rw [VR_sc]⟩
 ·rw [VR_sc] at hp; subst hp; cases h
  exact ⟨_, by simp only [Op.unary]; rfl, by rw [VR_sc]⟩
 ·cases h
theorem VR_agg {cs : List AV} {v : Value} (h : VR c w (.agg cs) v) : ∃ vs, v = .agg vs ∧ VRt c w cs vs.toList ∧ ∀ u ∈ vs.toList, u.oneCell' = true := by simpa only [VR] using h
theorem part_cell {P : Program} {t : TypeId} {u : TypeDesc} (hu : P.underlying t = some u) (hk : (∃ k, u = .int k) ∨ u = .bool ∨ u = .string) {cs : List AV} {xs : Array Value} (hx : VRt c w cs xs.toList) {off : Nat} {v : Value}
  (h : cs[off]? = some (.sc v)) : (part t xs off).run P w = .ok v w := by
 have hagg : (isAgg t).run P w = .ok false w := by
  simp only [isAgg, Sem.run_bind, run_underlying hu, Result.andThen_ok]
  rcases hk with ⟨k, rfl⟩ | rfl | rfl <;> rfl
 obtain ⟨v', hv, hr⟩ := VRt_get hx off _ h
 rw [VR_sc] at hr
 subst hr
 have : xs[off]? = some v' := by rw [← Array.getElem?_toList]; exact hv
 simp [part, hagg, this]
theorem eqFieldA_run {P : Program} {d : Nat} {f : Field} {cs ds : List AV} {xs ys : Array Value} (hx : VRt c w cs xs.toList) (hy : VRt c w ds ys.toList) {q : Bool} (h : eqFieldA P f cs ds = some q) :
  ∃ a b, (part f.type xs f.offset).run P w = .ok a w ∧ (part f.type ys f.offset).run P w = .ok b w ∧ (Op.equalIn (d + 1) f.type a b).run P w = .ok q w := by
 unfold eqFieldA at h
 split at h
 ·rename_i hu h1 h2
  split at h
  ·rename_i hk
   subst hk
   cases h
   exact ⟨_, _, part_cell hu (.inl ⟨_, rfl⟩) hx h1, part_cell hu (.inl ⟨_, rfl⟩) hy h2, run_equalIn_int _ _ _ _ _ _ _ hu⟩
  ·cases h
 ·rename_i hu h1 h2
  cases h
  exact ⟨_, _, part_cell hu (.inr (.inl rfl)) hx h1, part_cell hu (.inr (.inl rfl)) hy h2, run_equalIn_bool' _ _ _ _ _ hu⟩
 ·rename_i hu h1 h2
  cases h
  exact ⟨_, _, part_cell hu (.inr (.inr rfl)) hx h1, part_cell hu (.inr (.inr rfl)) hy h2, run_equalIn_string _ _ _ _ _ hu⟩
 ·cases h
theorem eqFields_run {P : Program} {d : Nat} {cs ds : List AV} {xs ys : Array Value} (hx : VRt c w cs xs.toList) (hy : VRt c w ds ys.toList) (fs : List Field) :
  ∀ {r : Bool}, eqFieldsA P cs ds fs = some r → (Op.eqFields (d + 1) xs ys fs).run P w = .ok r w := by
 induction fs with
 | nil => intro r h; simp [eqFieldsA] at h; subst h; rfl
 | cons f fs ih =>
  intro r h
  simp only [eqFieldsA] at h
  split at h
  ·cases h
  ·rename_i hn
   split at h
   ·rename_i x y h1 h2
    cases h
    obtain ⟨a, b, ha, hb, he⟩ := eqFieldA_run (d := d) hx hy h1
    simp only [Op.eqFields, ne_eq, hn, not_false_eq_true, if_true, Sem.run_bind, ha, hb, he, Result.andThen_ok, Sem.run_ite, Sem.run_pure]
    cases x
    ·simp
    ·simp [ih h2]
   ·cases h
theorem scT_spec {P : Program} {t : TypeId} {fs : List Field} (h : scT P t = some fs) : P.underlying t = some (.struct (P.fieldsOf t)) ∧ P.stoodInHeld t = false ∧ P.eqGuardType P.depth t = false ∧ (P.fieldsOf t).toList = fs := by
 unfold scT at h
 split at h
 ·rename_i fs' hu
  split at h
  ·rename_i hb
   cases h
   have hf : P.fieldsOf t = fs' := by unfold Program.fieldsOf; rw [hu]
   rw [hf]
   simp only [Bool.and_eq_true, Bool.not_eq_true'] at hb
   exact ⟨hu, hb.1, hb.2, rfl⟩
  ·cases h
 ·cases h
theorem evBinOp_run {P : Program} {op : BinOp} {t : TypeId} {x y : Operand} {p q r : AV} {a b : Value} (h : evBinOp P op t p q = some r) (hp : VR c w p a) (hq : VR c w q b) :
  ∃ v, ((do eqGuard op t x y a b; binOp op t a b) : Sem Value).run P w = .ok v w ∧ VR c w r v := by
 unfold evBinOp at h
 split at h
 ·rename_i cs ds
  obtain ⟨fs, hf, h⟩ := Option.bind_eq_some_iff.1 h
  obtain ⟨z, hz, rfl⟩ := Option.map_eq_some_iff.1 h
  obtain ⟨hu, h1, h2, rfl⟩ := scT_spec hf
  obtain ⟨xs, rfl, hx, _⟩ := VR_agg hp
  obtain ⟨ys, rfl, hy, _⟩ := VR_agg hq
  refine ⟨.bool z, ?_, by rw [VR_sc]⟩
  have hg : (eqGuard .eql t x y (.agg xs) (.agg ys)).run P w = .ok () w := by simp [eqGuard, h2]
  simp only [Sem.run_bind, hg, Result.andThen_ok]
  have he := run_equalIn_struct (P := P) w 9999 t xs ys hu h1
  rw [eqFields_run (d := 9998) hx hy _ hz] at he
  simp [binOp, Op.equal, Op.maxDepth, he]
 ·rename_i cs ds
  obtain ⟨fs, hf, h⟩ := Option.bind_eq_some_iff.1 h
  obtain ⟨z, hz, rfl⟩ := Option.map_eq_some_iff.1 h
  obtain ⟨hu, h1, h2, rfl⟩ := scT_spec hf
  obtain ⟨xs, rfl, hx, _⟩ := VR_agg hp
  obtain ⟨ys, rfl, hy, _⟩ := VR_agg hq
  refine ⟨.bool !z, ?_, by rw [VR_sc]⟩
  have hg : (eqGuard .neq t x y (.agg xs) (.agg ys)).run P w = .ok () w := by simp [eqGuard, h2]
  simp only [Sem.run_bind, hg, Result.andThen_ok]
  have he := run_equalIn_struct (P := P) w 9999 t xs ys hu h1
  rw [eqFields_run (d := 9998) hx hy _ hz] at he
  simp [binOp, Op.equal, Op.maxDepth, he]
 ·exact evBin_run h hp hq
end
end Go.Ev
namespace Go.Ev
open Go Go.RowKit
section
variable {G : Cfg} {c : Cx} {σ : Store} {w : World} {P : Program}
theorem add_plain' (b o n : Nat) : (⟨b, o, none⟩ : Addr).add n = ⟨b, o + n, none⟩ := Addr.add_lit b o n
theorem VCs_take {ok : Nat → Prop} {xs : List AV} {b off n : Nat} (h : VCs ok w xs b off) : VCs ok w (xs.take n) b off :=
 VCs_mk fun j x hx => VCs_get h j x (by rw [List.getElem?_take] at hx; split at hx; exact hx; cases hx)
theorem VCs_drop {ok : Nat → Prop} {xs : List AV} {b off n : Nat} (h : VCs ok w xs b off) : VCs ok w (xs.drop n) b (off + n) :=
 VCs_mk fun j x hx => by
  rw [List.getElem?_drop] at hx
  obtain ⟨v, hv, hx⟩ := VCs_get h _ x hx
  exact ⟨v, by rw [show off + n + j = off + (n + j) by omega]; exact hv, hx⟩
theorem VR_own {id : Id} {sub : Option Nat} {off n cap : Nat} {v : Value} : VR c w (.own id sub off n cap) v ↔ c.kn id ∧ ∃ A k, v = .slice A n k ∧ n ≤ k ∧ cap ≤ k ∧ (A = none → k = 0) ∧ (c.m (id, sub) = some none → k = 0) ∧
   ∀ b sh e, c.m (id, sub) = some (some (b, sh, e)) → (k = 0 ∨ A = some ⟨b, sh + off, none⟩) ∧ ∃ t z, w.shape? b = some (t, z) ∧ sh + off + k * e ≤ z := by simp only [VR]
theorem VR_ptr {id : Id} {sub : Option Nat} {off : Nat} {v : Value} : VR c w (.ptr id sub off) v ↔ c.kn id ∧ ∃ a, v = .pointer (some a) ∧ ∀ b sh e, c.m (id, sub) = some (some (b, sh, e)) → a = ⟨b, sh + off, none⟩ := by simp only [VR]
theorem VR_iptr {xs : List AV} {v : Value} : VR c w (.iptr xs) v ↔ ∃ a, v = .pointer (some a) ∧ (xs = [] ∨ (a.spot = none ∧ c.ok w a.block ∧ VCs (c.ok w) w xs a.block a.off)) := by simp only [VR]
theorem VR_sl {e n : Nat} {xs : List AV} {v : Value} : VR c w (.sl e n xs) v ↔ ∃ A k, v = .slice A n k ∧ n ≤ k ∧ NN e A n ∧ (xs = [] ∨ ∃ b off, A = some ⟨b, off, none⟩ ∧ c.ok w b ∧ VCs (c.ok w) w xs b off) := by simp only [VR, VC]
theorem VR_emp {v : Value} : VR c w .emp v ↔ ∃ A, v = .slice A 0 0 := by simp only [VR, VC]
theorem iptr_at {xs : List AV} {a : Addr} {m n : Nat} (h : xs = [] ∨ (a.spot = none ∧ c.ok w a.block ∧ VCs (c.ok w) w xs a.block a.off)) :
  VR c w (.iptr ((xs.drop m).take n)) (.pointer (some (a.add m))) := by
 rw [VR_iptr]
 refine ⟨_, rfl, ?_⟩
 rcases h with rfl | ⟨h1, h2, h3⟩
 ·exact .inl (by simp)
 ·obtain ⟨b, o, s⟩ := a
  simp only at h1 h2 h3
  subst h1
  rw [add_plain']
  exact .inr ⟨rfl, h2, VCs_take (VCs_drop h3)⟩
theorem evIndexAddr_run {t : TypeId} {x i r : AV} {a b : Value} (h : evIndexAddr P t x i = some r) (hx : VR c w x a) (hi : VR c w i b) :
  ∃ v, (Instr.indexAt t a b).run P w = .ok v w ∧ VR c w r v := by
 unfold evIndexAddr at h
 split at h
 ·rename_i kk i
  rw [VR_sc] at hi
  subst hi
  split at h
  ·cases h
  ·rename_i h0
   split at h
   ·rename_i id sub off n cap
    split at h
    ·rename_i e he
     have hu := slT_spec he
     split at h
     ·rename_i s hs
      split at h
      ·rename_i hlt
       cases h
       obtain ⟨hkn, A, k, rfl, hn, hc, hA0, hm0, hm⟩ := VR_own.1 hx
       cases A with
       | none => have := hA0 rfl; omega
       | some A =>
        refine ⟨.pointer (some (A.add (i.toNat * s))), ?_, ?_⟩
        ·simp [Instr.indexAt, run_underlying hu, asIntOf, szT_run hs, show 0 ≤ i ∧ i < (n : Int) from ⟨by omega, hlt⟩]
        ·rw [VR_ptr]
         refine ⟨hkn, _, rfl, fun b sh e' hb => ?_⟩
         obtain ⟨hA, _⟩ := hm b sh e' hb
         rcases hA with hA | hA
         ·omega
         ·cases hA; rw [add_plain', Nat.add_assoc]
      ·cases h
     ·cases h
    ·cases h
   ·rename_i e' n xs
    split at h
    ·rename_i e he
     have hu := slT_spec he
     split at h
     ·rename_i s hs
      split at h
      ·rename_i hlt
       cases h
       obtain ⟨A, k, rfl, hn, hA0, hm⟩ := VR_sl.1 hx
       have hA0 := hA0.z
       cases A with
       | none => have := hA0 rfl; omega
       | some A =>
        refine ⟨.pointer (some (A.add (i.toNat * s))), ?_, ?_⟩
        ·simp [Instr.indexAt, run_underlying hu, asIntOf, szT_run hs, show 0 ≤ i ∧ i < (n : Int) from ⟨by omega, hlt⟩]
        ·refine iptr_at ?_
         rcases hm with hm | ⟨b, off, hA, hb, hm⟩
         ·exact .inl hm
         ·cases hA; exact .inr ⟨rfl, hb, hm⟩
      ·cases h
     ·cases h
    ·cases h
   ·rename_i id sub off
    split at h
    ·rename_i n e he
     have hu := arT_spec he
     split at h
     ·rename_i s hs
      split at h
      ·rename_i hlt
       cases h
       obtain ⟨hkn, A, rfl, hm⟩ := VR_ptr.1 hx
       refine ⟨.pointer (some (A.add (i.toNat * s))), ?_, ?_⟩
       ·simp [Instr.indexAt, Instr.sureAddr, run_underlying hu, asIntOf, szT_run hs, show 0 ≤ i ∧ i < (n : Int) from ⟨by omega, hlt⟩]
       ·rw [VR_ptr]
        refine ⟨hkn, _, rfl, fun b sh e' hb => ?_⟩
        rw [hm b sh e' hb, add_plain', Nat.add_assoc]
      ·cases h
     ·cases h
    ·cases h
   ·rename_i xs
    split at h
    ·rename_i n e he
     have hu := arT_spec he
     split at h
     ·rename_i s hs
      split at h
      ·rename_i hlt
       cases h
       obtain ⟨A, rfl, hm⟩ := VR_iptr.1 hx
       refine ⟨.pointer (some (A.add (i.toNat * s))), ?_, iptr_at hm⟩
       simp [Instr.indexAt, Instr.sureAddr, run_underlying hu, asIntOf, szT_run hs, show 0 ≤ i ∧ i < (n : Int) from ⟨by omega, hlt⟩]
      ·cases h
     ·cases h
    ·cases h
   ·cases h
 ·cases h
theorem evFieldAddr_run {t : TypeId} {x r : AV} {i : Nat} {a : Value} (h : evFieldAddr P t x i = some r) (hx : VR c w x a) : ∃ v, (Instr.fieldAt t a i).run P w = .ok v w ∧ VR c w r v := by
 unfold evFieldAddr at h
 split at h
 ·rename_i ft off hf
  obtain ⟨fs, f, hu, hfi, rfl, rfl⟩ := fldT_spec hf
  split at h
  ·rename_i s hs
   split at h
   ·cases h
   ·rename_i hs0
    split at h
    ·rename_i id sub o
     cases h
     obtain ⟨hkn, A, rfl, hm⟩ := VR_ptr.1 hx
     refine ⟨.pointer (some (A.add f.offset)), ?_, ?_⟩
     ·simp [Instr.fieldAt, run_underlying hu, hfi, Instr.sureAddr, fieldPlace, szT_run hs, hs0]
     ·rw [VR_ptr]
      refine ⟨hkn, _, rfl, fun b sh e' hb => ?_⟩
      rw [hm b sh e' hb, add_plain', Nat.add_assoc]
    ·rename_i xs
     cases h
     obtain ⟨A, rfl, hm⟩ := VR_iptr.1 hx
     refine ⟨.pointer (some (A.add f.offset)), ?_, ?_⟩
     ·simp [Instr.fieldAt, run_underlying hu, hfi, Instr.sureAddr, fieldPlace, szT_run hs, hs0]
     ·have := iptr_at (m := f.offset) (n := (xs.drop f.offset).length) hm
      rwa [List.take_length] at this
    ·cases h
  ·cases h
 ·cases h
theorem VRt_takeAt {cs xs : List AV} {vs : List Value} {off n : Nat} (h : VRt c w cs vs) (hx : takeAt cs off n = some xs) : VRt c w xs ((vs.drop off).take n) ∧ off + n ≤ vs.length := by
 have hl := VRt_length h
 unfold takeAt at hx
 split at hx
 ·rename_i hle
  cases hx
  refine ⟨VRt_mk (by simp [hl]) fun j x v hj hv => ?_, by omega⟩
  rw [List.getElem?_take] at hj hv
  split at hj
  ·rename_i hjn
   rw [if_pos hjn] at hv
   rw [List.getElem?_drop] at hj hv
   obtain ⟨u, hu, hr⟩ := VRt_get h _ x hj
   rw [hv] at hu
   cases hu
   exact hr
  ·cases hj
 ·cases hx
theorem part_agg {t : TypeId} {s off : Nat} {g : Bool} {cs : List AV} {vs : Array Value} {r : AV} (hs : szT P t = some s) (hg : aggT P t = some g) (hx : VRt c w cs vs.toList) (ho : ∀ u ∈ vs.toList, u.oneCell' = true)
  (h : (if g then (takeAt cs off s).map .agg else cs[off]?) = some r) : ∃ v, (part t vs off).run P w = .ok v w ∧ VR c w r v := by
 unfold part
 simp only [Sem.run_bind, aggT_run hg, Result.andThen_ok]
 cases g with
 | true =>
  simp only [if_true] at h ⊢
  obtain ⟨xs, hxs, rfl⟩ := Option.map_eq_some_iff.1 h
  obtain ⟨h1, h2⟩ := VRt_takeAt hx hxs
  refine ⟨.agg (vs.extract off (off + s)), by simp [szT_run hs], ?_⟩
  simp only [VR]
  refine ⟨_, rfl, ?_, ?_⟩
  ·rw [Array.toList_extract]
   simpa [List.extract] using h1
  ·intro u hu
   rw [Array.toList_extract] at hu
   exact ho u (List.mem_of_mem_drop (List.mem_of_mem_take (by simpa [List.extract] using hu)))
 | false =>
  simp only [Bool.false_eq_true, if_false] at h ⊢
  obtain ⟨v, hv, hr⟩ := VRt_get hx off r h
  have : vs[off]? = some v := by rw [← Array.getElem?_toList]; exact hv
  exact ⟨v, by simp [this], hr⟩
theorem evField_run {t : TypeId} {x r : AV} {i : Nat} {a : Value} (h : evField P t x i = some r) (hx : VR c w x a) : ∃ v, (Instr.field t a i).run P w = .ok v w ∧ VR c w r v := by
 unfold evField at h
 split at h
 ·rename_i cs ft off hf
  obtain ⟨fs, f, hu, hfi, rfl, rfl⟩ := fldT_spec hf
  split at h
  ·rename_i s g hs hg
   obtain ⟨vs, rfl, hv, ho⟩ := VR_agg hx
   obtain ⟨v, hv, hr⟩ := part_agg hs hg hv ho h
   refine ⟨v, ?_, hr⟩
   simp [Instr.field, run_underlying hu, hfi, asAgg, hv]
  ·cases h
 ·cases h
theorem evIndex_run {t : TypeId} {x i r : AV} {a b : Value} (h : evIndex P t x i = some r) (hx : VR c w x a) (hi : VR c w i b) : ∃ v, (Instr.index t a b).run P w = .ok v w ∧ VR c w r v := by
 unfold evIndex at h
 split at h
 ·rename_i kk i
  rw [VR_sc] at hi
  subst hi
  split at h
  ·cases h
  ·rename_i h0
   split at h
   ·rename_i s
    split at h
    ·rename_i hs
     have hu := isStrT_spec hs
     rw [VR_sc] at hx
     subst hx
     obtain ⟨q, hq, rfl⟩ := Option.map_eq_some_iff.1 h
     exact ⟨.int .u8 q.toNat, by simp [Instr.index, run_underlying hu, asIntOf, show 0 ≤ i from by omega, hq], by rw [VR_sc]⟩
    ·cases h
   ·rename_i cs
    split at h
    ·rename_i n e he
     have hu := arT_spec he
     split at h
     ·rename_i s g hs hg
      split at h
      ·rename_i hlt
       obtain ⟨vs, rfl, hv, ho⟩ := VR_agg hx
       obtain ⟨v, hv, hr⟩ := part_agg hs hg hv ho h
       refine ⟨v, ?_, hr⟩
       simp [Instr.index, run_underlying hu, asIntOf, show 0 ≤ i ∧ i < (n : Int) from ⟨by omega, hlt⟩, szT_run hs, hv]
      ·cases h
     ·cases h
    ·cases h
   ·cases h
 ·cases h
end
end Go.Ev
namespace Go.Ev
open Go Go.RowKit
section
variable {G : Cfg} {c : Cx} {σ : Store} {w : World} {P : Program}
theorem Rel.row (h : Rel G c σ w) {id : Id} {sub : Option Nat} {cs : List AV} {e : Nat} (hr : rowOf σ id sub = some (cs, e)) :
  (c.m (id, sub) = some none ∧ cs = []) ∨ ∃ b sh, c.m (id, sub) = some (some (b, sh, e)) ∧ Plain w b ∧ VCs (c.ok w) w cs b sh := by
 cases sub with
 | none =>
  simp only [rowOf] at hr
  split at hr
  ·rename_i blk hb
   split at hr
   ·rename_i ha
    cases hr
    rcases h.blk id blk hb with ⟨h1, h2, _⟩ | ⟨b, sh, h1, h2, _, h3⟩
    ·exact .inl ⟨h1, h2⟩
    ·refine .inr ⟨b, sh, h1, h2, VCs_mk fun j x hx => ?_⟩
     obtain ⟨v, hv, hc⟩ := h3 j x hx
     unfold CellOk at hc
     rw [if_pos ha] at hc
     exact ⟨v, hv, hc.2.1⟩
   ·cases hr
  ·cases hr
 | some p =>
  simp only [rowOf] at hr
  split at hr
  ·rename_i blk hb
   split at hr
   ·rename_i e' n xs hx
    split at hr
    ·rename_i ha
     cases hr
     rcases h.blk id blk hb with ⟨_, h2, _⟩ | ⟨b, sh, h1, h2, _, h3⟩
     ·rw [h2] at hx; simp at hx
     ·obtain ⟨v, hv, hc⟩ := h3 p _ hx
      unfold CellOk at hc
      rw [if_pos ha] at hc
      obtain ⟨A, k, _, _, hn⟩ := hc.2.2 _ _ _ rfl
      rcases hn with ⟨h4, h5, _⟩ | ⟨b', sh', h4, _, h5, _, _, h6⟩
      ·exact .inl ⟨h4, h5⟩
      ·exact .inr ⟨b', sh', h4, h5, h6⟩
    ·cases hr
   ·cases hr
  ·cases hr
theorem bound_run {o : AV} {b : Value} {k : Int} (h : bound o = some k) (hx : VR c w o b) : ∃ kk, b = .int kk k := by
 unfold bound at h
 split at h
 ·cases h
  rw [VR_sc] at hx
  exact ⟨_, hx⟩
 ·cases h
def VRo (c : Cx) (w : World) : Option AV → Option Value → Prop
 | none, none => True
 | some x, some v => VR c w x v
 | _, _ => False
theorem bounds_run {isS : Bool} {n cap cap' : Nat} {lo hi mx : Option AV} {lv hv mv : Option Value} {p : Nat × Nat × Option Nat} (hc : cap ≤ cap') (he : evBounds n cap lo hi mx = some p)
  (h1 : VRo c w lo lv) (h2 : VRo c w hi hv) (h3 : VRo c w mx mv) :
  (Instr.sliceBounds isS n cap' lv hv mv).run P w = .ok (p.1, p.2.1, p.2.2.getD cap') w ∧ p.1 ≤ p.2.1 ∧ (hi = none → p.2.1 = n) ∧ (hi ≠ none → p.2.1 ≤ cap) ∧ (∀ q, p.2.2 = some q → p.2.1 ≤ q ∧ q ≤ cap) ∧ (p.2.2 = none → mx = none) := by
 unfold evBounds at he
 obtain ⟨m, hm', he⟩ := Option.bind_eq_some_iff.1 he
 obtain ⟨h, hh', he⟩ := Option.bind_eq_some_iff.1 he
 obtain ⟨l, hl', he⟩ := Option.bind_eq_some_iff.1 he
 cases he
 have M : (match (generalizing := false) mv with | some v => Instr.sliceBound v cap' (if isS then .slice3Acap else .slice3Alen) | none => pure cap' : Sem Nat).run P w = .ok (m.getD cap') w ∧ (mx = none ↔ mv = none) ∧ (mx = none ↔ m = none) ∧ ∀ q, m = some q → q ≤ cap := by
  cases mx with
  | none =>
   cases mv with
   | none => simp [bMax] at hm'; subst hm'; exact ⟨rfl, by simp, by simp, by simp⟩
   | some v => simp [VRo] at h3
  | some x =>
   cases mv with
   | none => simp [VRo] at h3
   | some v =>
    simp only [bMax] at hm'
    split at hm'
    ·rename_i k hk
     obtain ⟨kk, rfl⟩ := bound_run hk h3
     split at hm'
     ·rename_i hb
      cases hm'
      refine ⟨?_, by simp, by simp, fun q hq => by cases hq; omega⟩
      simp [Instr.sliceBound, asIntOf, show 0 ≤ k ∧ k ≤ (cap' : Int) by omega]
     ·cases hm'
    ·cases hm'
 obtain ⟨M1, M2, M3, M4⟩ := M
 have H : (match (generalizing := false) hv, mv with
   | some v, some _ => Instr.sliceBound v (m.getD cap') .slice3B
   | some v, none => Instr.sliceBound v (m.getD cap') (if isS then .sliceAcap else .sliceAlen)
   | none, none => pure n
   | none, some _ => stuck "Slice: max without high" : Sem Nat).run P w = .ok h w ∧ (hi = none → h = n) ∧ (hi ≠ none → h ≤ cap) ∧ ∀ q, m = some q → h ≤ q := by
  cases hi with
  | none =>
   cases hv with
   | some v => simp [VRo] at h2
   | none =>
    simp only [bHi] at hh'
    split at hh'
    ·rename_i hn
     have hm0 : mx = none := by simpa using hn
     have hmn := M3.1 hm0
     have hmv := M2.1 hm0
     subst hmv
     cases hh'
     exact ⟨rfl, by simp, by simp, by simp [hmn]⟩
    ·cases hh'
  | some x =>
   cases hv with
   | none => simp [VRo] at h2
   | some v =>
    simp only [bHi] at hh'
    split at hh'
    ·rename_i k hk
     obtain ⟨kk, rfl⟩ := bound_run hk h2
     split at hh'
     ·rename_i hb
      cases hh'
      obtain ⟨hb0, hb1, hb2⟩ := hb
      have hq : ∀ q, m = some q → k ≤ q := by intro q hq; subst hq; simpa [underMax] using hb2
      have hle : k ≤ ((m.getD cap' : Nat) : Int) := by
       cases m with
       | none => simp; omega
       | some q => simpa using hq q rfl
      refine ⟨?_, by simp, fun _ => by omega, fun q hq' => by have := hq q hq'; omega⟩
      cases mv <;> simp [Instr.sliceBound, asIntOf, hb0, hle]
     ·cases hh'
    ·cases hh'
 obtain ⟨H1, H2, H3, H4⟩ := H
 have Lo : (match (generalizing := false) lv with | some v => Instr.sliceBound v h (if mv.isSome then .slice3C else .sliceB) | none => pure 0 : Sem Nat).run P w = .ok l w ∧ l ≤ h := by
  cases lo with
  | none =>
   cases lv with
   | some v => simp [VRo] at h1
   | none => simp [bLo] at hl'; subst hl'; exact ⟨rfl, Nat.zero_le _⟩
  | some x =>
   cases lv with
   | none => simp [VRo] at h1
   | some v =>
    simp only [bLo] at hl'
    split at hl'
    ·rename_i k hk
     obtain ⟨kk, rfl⟩ := bound_run hk h1
     split at hl'
     ·rename_i hb
      cases hl'
      refine ⟨?_, by omega⟩
      simp [Instr.sliceBound, asIntOf, hb]
     ·cases hl'
    ·cases hl'
 refine ⟨?_, Lo.2, H2, H3, fun q hq => ⟨H4 q hq, M4 q hq⟩, fun h => M3.2 h⟩
 have L1 := Lo.1
 clear Lo H4 M4 H2 H3 M2 M3 h1 h2 h3 hm' hh' hl'
 cases mv <;> cases hv <;> cases lv <;> first
  | (exfalso; simp at H1; done)
  | (
   dsimp only at M1 H1 L1
   unfold Instr.sliceBounds
   simp only [Sem.run_bind]
   rw [M1]
   simp only [Result.andThen_ok]
   rw [H1]
   simp only [Result.andThen_ok]
   rw [L1]
   rfl)
theorem evSlice_run (hR : Rel G c σ w) {t : TypeId} {x r : AV} {a : Value} {lo hi mx : Option AV} {lv hv mv : Option Value} (he : evSlice P σ t x lo hi mx = some r) (hx : VR c w x a)
  (h1 : VRo c w lo lv) (h2 : VRo c w hi hv) (h3 : VRo c w mx mv) : ∃ v, (Instr.sliceAt t a lv hv mv).run P w = .ok v w ∧ VR c w r v := by
 unfold evSlice at he
 split at he
 ·rename_i s
  rw [VR_sc] at hx
  subst hx
  split at he
  ·rename_i hb
   have hu := isStrT_spec hb.1
   obtain ⟨p, hp, rfl⟩ := Option.map_eq_some_iff.1 he
   have hm : mx = none := by simpa using hb.2
   subst hm
   have hmv : mv = none := by cases mv; rfl; simp [VRo] at h3
   subst hmv
   obtain ⟨hr, _⟩ := bounds_run (P := P) (isS := false) (Nat.le_refl _) hp h1 h2 h3
   exact ⟨.string (s.extract p.1 p.2.1), by simp [Instr.sliceAt, run_underlying hu, Instr.slice, hr], by rw [VR_sc]⟩
  ·cases he
 ·split at he
  ·rename_i e hel
   split at he
   ·rename_i s hs
    have hu := slT_spec hel
    obtain ⟨p, hp, rfl⟩ := Option.map_eq_some_iff.1 he
    obtain ⟨A, rfl⟩ := VR_emp.1 hx
    obtain ⟨hr, hlh, hn, hc, hq, hmx⟩ := bounds_run (P := P) (isS := true) (Nat.le_refl _) hp h1 h2 h3
    have h0 : p.2.1 = 0 := by
     cases hi with
     | none => exact hn rfl
     | some _ => have := hc (by simp); omega
    have m0 : p.2.2.getD 0 = 0 := by
     cases hm : p.2.2 with
     | none => rfl
     | some q => have := hq q hm; simp; omega
    refine ⟨.slice A 0 0, ?_, VR_emp.2 ⟨A, rfl⟩⟩
    simp [Instr.sliceAt, run_underlying hu, Instr.slice, hr, szT_run hs, m0, h0, show p.1 = 0 by omega]
   ·cases he
  ·cases he
 ·rename_i e' n xs
  split at he
  ·rename_i e hel
   split at he
   ·rename_i s hs
    split at he
    ·rename_i hes
     have hu := slT_spec hel
     obtain ⟨p, hp, rfl⟩ := Option.map_eq_some_iff.1 he
     obtain ⟨A, k, rfl, hnk, hA0, hm⟩ := VR_sl.1 hx
     have hA0 := hA0.z
     obtain ⟨hr, hlh, hn, hc, hq, hmx⟩ := bounds_run (P := P) (isS := true) hnk hp h1 h2 h3
     have hhn : p.2.1 ≤ n := by
      cases hi with
      | none => exact Nat.le_of_eq (hn rfl)
      | some _ => exact hc (by simp)
     refine ⟨_, by simp [Instr.sliceAt, run_underlying hu, Instr.slice, hr, szT_run hs]; rfl, ?_⟩
     split
     ·rename_i hpm
      rw [VR_emp, hpm]
      have := (hq _ hpm).1
      exact ⟨_, by simp [show p.2.1 - p.1 = 0 by omega]; rfl⟩
     ·rename_i hpm
      rw [VR_sl]
      refine ⟨_, _, rfl, ?_, ?_, ?_⟩
      ·cases hm2 : p.2.2 with
       | none => simp; omega
       | some q => have := hq q hm2; simp; omega
      ·refine NN.of fun hA => ?_
       have : A = none := by split at hA <;> simp_all
       have := hA0 this
       omega
      ·rcases hm with rfl | ⟨b, off, rfl, hb, hm⟩
       ·exact .inl (by simp)
       ·by_cases hpk : p.2.2.getD k = p.1
        ·left
         have : p.2.1 = p.1 := by
          cases hm2 : p.2.2 with
          | none => rw [hm2] at hpk; simp at hpk; omega
          | some q => rw [hm2] at hpk; simp at hpk; exact absurd (by rw [hm2, hpk]) hpm
         simp [this]
        ·right
         refine ⟨b, off + p.1 * s, ?_, hb, VCs_take (VCs_drop hm)⟩
         rw [if_neg hpk]
         simp [add_plain']
    ·cases he
   ·cases he
  ·cases he
 ·rename_i id sub off n cap
  split at he
  ·rename_i e hel
   split at he
   ·rename_i s hs
    have hu := slT_spec hel
    split at he
    rotate_left
    ·cases he
    rename_i cs e'' hrow
    split at he
    rotate_left
    ·cases he
    rename_i hes
    subst hes
    obtain ⟨p, hp, rfl⟩ := Option.map_eq_some_iff.1 he
    obtain ⟨hkn, A, k, rfl, hnk, hck, hA0, hm0, hm⟩ := VR_own.1 hx
    obtain ⟨hr, hlh, hn, hc, hq, hmx⟩ := bounds_run (P := P) (isS := true) hck hp h1 h2 h3
    refine ⟨_, by simp [Instr.sliceAt, run_underlying hu, Instr.slice, hr, szT_run hs]; rfl, ?_⟩
    split
    ·rename_i hpm
     rw [VR_emp, hpm]
     have := (hq _ hpm).1
     exact ⟨_, by simp [show p.2.1 - p.1 = 0 by omega]; rfl⟩
    ·rename_i hpm
     rw [VR_own]
     have hhc : p.2.1 ≤ k := by
      cases hi with
      | none => have := hn rfl; omega
      | some _ => have := hc (by simp); omega
     have hgk : p.2.1 ≤ p.2.2.getD k := by
      cases hm2 : p.2.2 with
      | none => simp; omega
      | some q => have := hq q hm2; simp; omega
     have hkk : p.2.2.getD k ≤ k := by
      cases hm2 : p.2.2 with
      | none => simp
      | some q => have := hq q hm2; simp; omega
     refine ⟨hkn, _, _, rfl, by omega, ?_, ?_, ?_, ?_⟩
     ·cases hm2 : p.2.2 with
      | none => simp; omega
      | some q => simp
     ·intro hA
      have : A = none := by split at hA <;> simp_all
      have := hA0 this
      omega
     ·intro hmn
      have := hm0 hmn
      omega
     ·intro b sh e' hb
      obtain ⟨hA, t', z, hz, hle⟩ := hm b sh e' hb
      refine ⟨?_, t', z, hz, ?_⟩
      ·by_cases hpk : p.2.2.getD k = p.1
       ·left; omega
       ·right
        rw [if_neg hpk]
        rcases hA with hA | hA
        ·omega
        ·subst hA; simp [add_plain', Nat.add_assoc]
      ·have hee : e' = e'' := by
        rcases hR.row hrow with ⟨h4, _⟩ | ⟨b', sh', h4, _⟩
        ·rw [h4] at hb; cases hb
        ·rw [h4] at hb; cases hb; rfl
       subst hee
       have h5 : (p.2.2.getD k - p.1) * e' + p.1 * e' ≤ k * e' := by
        rw [← Nat.add_mul]
        exact Nat.mul_le_mul_right _ (by omega)
       omega
   ·cases he
  ·cases he
 ·cases he
theorem eqNil_run {t e : TypeId} (hu : P.underlying t = some (.slice e)) (A : Option Addr) (n k : Nat) : ((binOp .eql t (.slice A n k) (.slice none 0 0)) : Sem Value).run P w = .ok (.bool A.isNone) w := by
 have h : ∀ d, (Op.equalIn (d + 1) t (.slice A n k) (.slice none 0 0)).run P w = .ok A.isNone w := fun d => by
  simp only [Op.equalIn, Sem.run_bind, run_underlying hu, Result.andThen_ok]
  cases A <;> rfl
 show ((do pure (.bool (← Op.equal t _ _)) : Sem Value)).run P w = _
 unfold Op.equal Op.maxDepth
 rw [Sem.run_bind, h 9999]
 rfl
theorem evBinOpN_run {op : BinOp} {t : TypeId} {x y : Operand} {p q r : AV} {a : Value} {ρ : Operand → Value} (h : evBinOpN P op t p q y = some r) (hp : VR c w p a) (hq : VR c w q (ρ y)) (hy : ∀ v, y = .const v → ρ y = v) :
  ∃ v, ((do eqGuard op t x y a (ρ y); binOp op t a (ρ y)) : Sem Value).run P w = .ok v w ∧ VR c w r v := by
 unfold evBinOpN at h
 split at h
 ·rename_i m n xs hn
  obtain ⟨A, k, rfl, _, hA, _⟩ := VR_sl.1 hp
  have hyv : ρ y = .slice none 0 0 := by
   unfold isNilC at hn
   split at hn
   ·exact hy _ rfl
   ·cases hn
  rw [hyv]
  unfold evNil at h
  split at h
  ·rename_i e hs
   cases h
   have hA := hA.2 rfl
   subst hA
   refine ⟨.bool true, ?_, VR_sc.2 rfl⟩
   have hu := slT_spec hs
   rw [Sem.run_bind, show (eqGuard .eql t x y (.slice none _ _) (.slice none 0 0)).run P w = .ok () w from rfl, Result.andThen_ok, eqNil_run hu]
   rfl
  ·rename_i e hs
   cases h
   cases A with
   | none => exact absurd rfl (hA.1 rfl).2
   | some A =>
    refine ⟨.bool false, ?_, VR_sc.2 rfl⟩
    have hu := slT_spec hs
    rw [Sem.run_bind, show (eqGuard .eql t x y (.slice (some A) _ _) (.slice none 0 0)).run P w = .ok () w from rfl, Result.andThen_ok, eqNil_run hu]
    rfl
  ·cases h
 ·exact evBinOp_run h hp hq
end
end Go.Ev
namespace Go.Ev
open Go Go.RowKit
section
variable {G : Cfg} {c : Cx} {σ : Store} {w : World} {P : Program}
theorem VR_of_VC {x : AV} {v : Value} (h : VC (c.ok w) w x v) : VR c w x v := by
 cases x <;> simp only [VC] at h <;> simp only [VR, VC] <;> first | exact h | exact h.1 | trivial
theorem VR_junk {v : Value} : VR c w .junk v := by simp only [VR]
theorem VR_sub {x : AV} {v : Value} (h : VC (c.ok w) w x v) : VR c w (subNst x) v := by
 cases x <;> first | exact VR_of_VC h | exact VR_junk
theorem VCs_vals {ok : Nat → Prop} {xs : List AV} {b off : Nat} (h : VCs ok w xs b off) : ∃ vs : List Value, vs.length = xs.length ∧ (∀ j v, vs[j]? = some v → w.cell? ⟨b, off + j, none⟩ = some v) ∧
  ∀ (j : Nat) (x : AV) (v : Value), xs[j]? = some x → vs[j]? = some v → VC ok w x v := by
 induction xs generalizing off with
 | nil => exact ⟨[], rfl, by simp, by simp⟩
 | cons x r ih =>
  simp only [VCs] at h
  obtain ⟨⟨v, hv, hx⟩, hr⟩ := h
  obtain ⟨vs, h1, h2, h3⟩ := ih hr
  refine ⟨v :: vs, by simp [h1], fun j u hu => ?_, fun j y u hy hu => ?_⟩
  ·cases j with
   | zero => simp at hu; subst hu; exact hv
   | succ j => simp at hu; have := h2 j u hu; rwa [show off + 1 + j = off + (j + 1) by omega] at this
  ·cases j with
   | zero => simp at hy hu; subst hy hu; exact hx
   | succ j => simp at hy hu; exact h3 j y u hy hu
theorem VRt_of_VC {xs : List AV} {vs : List Value} (hl : vs.length = xs.length) (h : ∀ (j : Nat) (x : AV) (v : Value), xs[j]? = some x → vs[j]? = some v → VC (c.ok w) w x v) (f : AV → AV) (hf : ∀ x v, VC (c.ok w) w x v → VR c w (f x) v) :
  VRt c w (xs.map f) vs ∧ ∀ u ∈ vs, u.oneCell' = true := by
 refine ⟨VRt_mk (by simp [hl]) fun j x v hx hv => ?_, fun u hu => ?_⟩
 ·rw [List.getElem?_map] at hx
  obtain ⟨y, hy, rfl⟩ := Option.map_eq_some_iff.1 hx
  exact hf _ _ (h j y v hy hv)
 ·obtain ⟨j, hj⟩ := List.mem_iff_getElem?.1 hu
  have : j < xs.length := by have := (List.getElem?_eq_some_iff.1 hj).1; omega
  exact VC_one (h j _ u (List.getElem?_eq_getElem this) hj)
theorem viewFrom_get (id : Id) : ∀ (cs : List AV) (p j : Nat), (viewFrom id p cs)[j]? = (cs[j]?).map (viewCell id (p + j))
 | [], p, j => by simp [viewFrom]
 | x :: r, p, 0 => by simp [viewFrom]
 | x :: r, p, j + 1 => by
  simp only [viewFrom, List.getElem?_cons_succ]
  rw [viewFrom_get id r (p + 1) j, show p + 1 + j = p + (j + 1) by omega]
theorem viewFrom_length (id : Id) : ∀ (cs : List AV) (p : Nat), (viewFrom id p cs).length = cs.length
 | [], _ => rfl
 | _ :: r, p => by simp [viewFrom, viewFrom_length id r (p + 1)]
theorem has_of_get {σ : Store} {id : Id} {b : Blk} (h : σ.get? id = some b) : σ.has id = true := by
 induction σ with
 | nil => simp [Store.get?] at h
 | cons p r ih =>
  obtain ⟨j, q⟩ := p
  simp only [Store.get?, Store.has] at h ⊢
  split at h
  ·rename_i hj; rw [if_pos hj]
  ·rename_i hj; rw [if_neg hj]; exact ih h
theorem takeAt_some {cs xs : List AV} {off n : Nat} (h : takeAt cs off n = some xs) : off + n ≤ cs.length ∧ xs = (cs.drop off).take n := by
 unfold takeAt at h
 split at h
 ·cases h; exact ⟨‹_›, rfl⟩
 ·cases h
theorem viewCell_run (hR : Rel G c σ w) {id : Id} {blk : Blk} (hb : σ.get? id = some blk) {p : Nat} {x : AV} {v : Value} (h : CellOk c w id blk p x v) (nest : Bool) (hna : nest = true → blk.arr = true) : VR c w (if nest then viewCell id p x else x) v := by
 have hkn : c.kn id := (hR.kn id).2 (has_of_get hb)
 have hx : VR c w x v := by
  unfold CellOk at h
  split at h
  ·exact VR_of_VC h.2.1
  ·exact h.2
 cases nest with
 | false => exact hx
 | true =>
  simp only [if_true]
  cases x with
  | nst e n xs =>
   simp only [viewCell]
   unfold CellOk at h
   split at h
   ·obtain ⟨A, k, rfl, hn, hm⟩ := h.2.2 _ _ _ rfl
    rw [VR_own]
    refine ⟨hkn, A, k, rfl, hn, hn, ?_, ?_, ?_⟩
    ·rcases hm with ⟨_, _, h0⟩ | ⟨b', sh', _, hA, _⟩
     ·intro _; exact h0
     ·intro h; rw [hA] at h; cases h
    ·rcases hm with ⟨_, _, h0⟩ | ⟨b', sh', hm, _⟩
     ·intro _; exact h0
     ·intro h; rw [hm] at h; cases h
    ·intro b sh e' hme
     rcases hm with ⟨hm, _, _⟩ | ⟨b', sh', hm, hA, _, _, ⟨t, z, hz, hle⟩, _⟩
     ·rw [hm] at hme; cases hme
     ·rw [hm] at hme; cases hme
      exact ⟨.inr (by rw [hA]; rfl), t, z, hz, by simpa using hle⟩
   ·rename_i ha
    exact absurd (hna rfl) ha
  | _ => exact hx
theorem readAt_run (hR : Rel G c σ w) {id : Id} {sub : Option Nat} {off n : Nat} {cs : List AV} (h : readAt σ id sub off n = some cs) :
  cs.length = n ∧ ((c.m (id, sub) = some none ∧ n = 0) ∨ ∃ b sh e vs, c.m (id, sub) = some (some (b, sh, e)) ∧ vs.length = n ∧ (∀ (j : Nat) v, vs[j]? = some v → w.cell? ⟨b, sh + off + j, none⟩ = some v) ∧
   VRt c w cs vs ∧ ∀ u ∈ vs, u.oneCell' = true) := by
 unfold readAt at h
 split at h
 ·cases h
 ·rename_i blk hb
  split at h
  ·obtain ⟨xs, hxs, rfl⟩ := Option.map_eq_some_iff.1 h
   obtain ⟨hle, hxe⟩ := takeAt_some hxs
   have hl : xs.length = n := by subst hxe; simp; omega
   have hl' : (if (blk.arr && blk.nest) = true then viewFrom id off xs else xs).length = n := by split; rw [viewFrom_length, hl]; exact hl
   refine ⟨hl', ?_⟩
   rcases hR.blk id blk hb with ⟨h1, h2, _⟩ | ⟨b, sh, h1, h2, _, h3⟩
   ·refine .inl ⟨h1, ?_⟩
    rw [h2] at hle
    simp at hle
    omega
   ·have hget : ∀ j, j < n → ∃ v, w.cell? ⟨b, sh + off + j, none⟩ = some v ∧ ∃ x, blk.cells[off + j]? = some x ∧ CellOk c w id blk (off + j) x v := by
     intro j hj
     have hx := List.getElem?_eq_getElem (show off + j < blk.cells.length by omega)
     obtain ⟨v, hv, hc⟩ := h3 (off + j) _ hx
     exact ⟨v, by rw [Nat.add_assoc]; exact hv, _, hx, hc⟩
    refine .inr ⟨b, sh, blk.esz, (List.range n).map (fun j => (w.cell? ⟨b, sh + off + j, none⟩).getD undef), h1, by simp, ?_, ?_, ?_⟩
    ·intro j v hv
     rw [List.getElem?_map] at hv
     obtain ⟨q, hq, rfl⟩ := Option.map_eq_some_iff.1 hv
     obtain ⟨hqn, hqe⟩ := List.getElem?_eq_some_iff.1 hq
     have hqj : q = j := by simpa using hqe.symm
     subst hqj
     obtain ⟨v, hv, _⟩ := hget q (by simpa using hqn)
     rw [hv]; rfl
    ·refine VRt_mk (by rw [hl']; simp) fun j x v hx hv => ?_
     rw [List.getElem?_map] at hv
     obtain ⟨q, hq, rfl⟩ := Option.map_eq_some_iff.1 hv
     obtain ⟨hqn, hqe⟩ := List.getElem?_eq_some_iff.1 hq
     have hqj : q = j := by simpa using hqe.symm
     subst hqj
     obtain ⟨v, hv, y, hy, hc⟩ := hget q (by simpa using hqn)
     rw [hv]
     have := viewCell_run hR hb hc (blk.arr && blk.nest) (fun h => (Bool.and_eq_true_iff.1 h).1)
     have hxy : x = if (blk.arr && blk.nest) = true then viewCell id (off + q) y else y := by
      have hxs' : xs[q]? = some y := by
       rw [hxe, List.getElem?_take, if_pos (by simpa using hqn), List.getElem?_drop]; exact hy
      split at hx
      ·rename_i hnn
       rw [viewFrom_get, hxs'] at hx
       rw [if_pos hnn]
       simpa using hx.symm
      ·rename_i hnn
       rw [hxs'] at hx
       rw [if_neg hnn]
       simpa using hx.symm
     rw [hxy]
     exact this
    ·intro u hu
     obtain ⟨j, hj, rfl⟩ := List.mem_map.1 hu
     obtain ⟨v, hv, _, _, hc⟩ := hget j (by simpa using hj)
     rw [hv]
     exact hc.1
  ·rename_i p
   split at h
   ·rename_i e n' ys hx
    split at h
    ·rename_i ha
     obtain ⟨xs, hxs, rfl⟩ := Option.map_eq_some_iff.1 h
     obtain ⟨hle, hxe⟩ := takeAt_some hxs
     have hl : xs.length = n := by subst hxe; simp; omega
     refine ⟨by simp [hl], ?_⟩
     have hrow : rowOf σ id (some p) = some (ys, e) := by simp [rowOf, hb, hx, ha]
     rcases hR.row hrow with ⟨h1, h2⟩ | ⟨b, sh, h1, _, h2⟩
     ·subst h2; simp at hle; exact .inl ⟨h1, by omega⟩
     ·have h3 : VCs (c.ok w) w xs b (sh + off) := by rw [hxe]; exact VCs_take (VCs_drop h2)
      obtain ⟨vs, v1, v2, v3⟩ := VCs_vals h3
      obtain ⟨r1, r2⟩ := VRt_of_VC v1 v3 subNst (fun _ _ => VR_sub)
      exact .inr ⟨b, sh, e, vs, h1, by omega, v2, r1, r2⟩
    ·cases h
   ·cases h
theorem load_cells {vs : List Value} {b o : Nat} (h : ∀ (j : Nat) v, vs[j]? = some v → w.cell? ⟨b, o + j, none⟩ = some v) : (loadCells ⟨b, o, none⟩ vs.length).run P w = .ok vs.toArray w :=
 run_loadCells_list w _ vs fun j v hv => by rw [add_plain']; exact h j v hv
theorem loadA_run (hR : Rel G c σ w) {t : TypeId} {x r : AV} {a : Value} (h : loadA G σ t x = some r) (hx : VR c w x a) : ∃ v, (Instr.loadAt t a).run G.P w = .ok v w ∧ VR c w r v := by
 unfold loadA at h
 obtain ⟨n, hn, h⟩ := Option.bind_eq_some_iff.1 h
 obtain ⟨g, hg, h⟩ := Option.bind_eq_some_iff.1 h
 obtain ⟨cs, hcs, h⟩ := Option.bind_eq_some_iff.1 h
 have key : ∃ A, a = .pointer (some A) ∧ cs.length = (if g then n else 1) ∧ ((if g then n else 1) = 0 ∨ ∃ b o vs, A = ⟨b, o, none⟩ ∧ vs.length = (if g then n else 1) ∧ (∀ (j : Nat) v, vs[j]? = some v → w.cell? ⟨b, o + j, none⟩ = some v) ∧
   VRt c w cs vs ∧ ∀ u ∈ vs, u.oneCell' = true) := by
  cases x with
  | ptr id sub off =>
   simp only [cellsAt] at hcs
   obtain ⟨hkn, A, rfl, hm⟩ := VR_ptr.1 hx
   obtain ⟨hl, hr⟩ := readAt_run hR hcs
   refine ⟨A, rfl, hl, ?_⟩
   rcases hr with ⟨_, h0⟩ | ⟨b, sh, e, vs, h1, h2, h3, h4, h5⟩
   ·exact .inl h0
   ·exact .inr ⟨b, sh + off, vs, hm b sh e h1, h2, h3, h4, h5⟩
  | iptr xs =>
   simp only [cellsAt] at hcs
   obtain ⟨A, rfl, hm⟩ := VR_iptr.1 hx
   obtain ⟨ys, hys, rfl⟩ := Option.map_eq_some_iff.1 hcs
   obtain ⟨hle, hye⟩ := takeAt_some hys
   have hl : ys.length = if g then n else 1 := by subst hye; simp; omega
   refine ⟨A, rfl, by simp [hl], ?_⟩
   rcases hm with rfl | ⟨h1, h2, h3⟩
   ·left; simp at hle; omega
   ·right
    obtain ⟨b, o, s⟩ := A
    simp only at h1 h2 h3
    subst h1
    have h4 : VCs (c.ok w) w ys b o := by rw [hye]; exact VCs_take (by simpa using h3)
    obtain ⟨vs, v1, v2, v3⟩ := VCs_vals h4
    obtain ⟨r1, r2⟩ := VRt_of_VC v1 v3 subNst (fun _ _ => VR_sub)
    exact ⟨b, o, vs, rfl, by omega, v2, r1, r2⟩
  | _ => simp [cellsAt] at hcs
 obtain ⟨A, rfl, hl, hk⟩ := key
 cases g with
 | true =>
  simp only [if_true, pack] at h hk hl
  cases h
  rcases hk with h0 | ⟨b, o, vs, rfl, h1, h2, h3, h4⟩
  ·subst h0
   have hcs0 : cs = [] := List.eq_nil_of_length_eq_zero hl
   subst hcs0
   refine ⟨.agg #[], ?_, ?_⟩
   ·simp [Instr.loadAt, Instr.sureAddr, loadVar, aggT_run hg, szT_run hn, loadCells, loadCellsFrom]
   ·simp only [VR]; exact ⟨#[], rfl, by simp [VRt], by simp⟩
  ·refine ⟨.agg vs.toArray, ?_, ?_⟩
   ·have := load_cells (P := G.P) h2
    rw [h1] at this
    simp [Instr.loadAt, Instr.sureAddr, loadVar, aggT_run hg, szT_run hn, this]
   ·simp only [VR]; exact ⟨_, rfl, by simpa using h3, by simpa using h4⟩
 | false =>
  simp only [Bool.false_eq_true, if_false, pack] at h hk hl
  split at h
  ·rename_i x
   cases h
   rcases hk with h0 | ⟨b, o, vs, rfl, h1, h2, h3, h4⟩
   ·omega
   ·cases vs with
    | nil => simp at h1
    | cons v q =>
     simp only [VRt] at h3
     have := h2 0 v rfl
     refine ⟨v, ?_, h3.1⟩
     simp at this
     simp [Instr.loadAt, Instr.sureAddr, loadVar, aggT_run hg, this]
  ·cases h
end
end Go.Ev
namespace Go.Ev
open Go Go.RowKit
section
variable {G : Cfg} {c : Cx} {σ : Store} {w : World} {P : Program}
def VRs (c : Cx) (w : World) (xs : List AV) (vs : List Value) : Prop := VRt c w xs vs ∧ ∀ u ∈ vs, u.oneCell' = true
theorem cells_agg {cs : List AV} {v : Value} (h : VR c w (.agg cs) v) : VRs c w cs v.cells.toList := by
 obtain ⟨vs, rfl, h1, h2⟩ := VR_agg h
 exact ⟨h1, h2⟩
theorem one_val {x : AV} {v : Value} (h : VR c w x v) (h1 : x.one = true) : v.oneCell' = true := by
 cases x <;> simp only [AV.one] at h1 <;> simp only [VR, VC] at h
 ·rw [h]; exact h1
 ·obtain ⟨A, k, rfl, _⟩ := h; rfl
 ·obtain ⟨A, k, rfl, _⟩ := h; rfl
 ·obtain ⟨A, rfl⟩ := h; rfl
 ·obtain ⟨_, A, k, rfl, _⟩ := h; rfl
 ·obtain ⟨_, a, rfl, _⟩ := h; rfl
 ·obtain ⟨a, rfl, _⟩ := h; rfl
 ·cases h1
 ·cases h1
 ·obtain ⟨vs, rfl, _⟩ := h; rfl
 ·cases h1
theorem one_cells {v : Value} (h : v.oneCell' = true) : v.cells = #[v] := by cases v <;> first | rfl | simp [Value.oneCell'] at h
theorem cells_run {x : AV} {v : Value} (h : VR c w x v) (ha : x.cellOk = true) : VRs c w x.cells v.cells.toList := by
 cases x with
 | agg cs => exact cells_agg h
 | _ =>
  simp only [AV.cells, AV.cellOk] at ha ⊢
  have h1 := one_val h ha
  rw [one_cells h1]
  exact ⟨by simp only [VRt]; exact ⟨h, trivial⟩, by simpa using h1⟩
theorem cells_len {x : AV} {v : Value} (h : VR c w x v) : (∃ cs, x = .agg cs) ∨ x.cells = [x] := by
 cases x <;> first | exact .inl ⟨_, rfl⟩ | exact .inr rfl
theorem foldl_set (off : Nat) : ∀ (vs : List Value) (i : Nat) (cs : Array Value), ((vs.zipIdx i).foldl (fun cs p => cs.setIfInBounds (off + p.2) p.1) cs).toList = (vs.zipIdx i).foldl (fun (l : List Value) p => l.set (off + p.2) p.1) cs.toList
 | [], _, _ => rfl
 | v :: r, i, cs => by
  simp only [List.zipIdx_cons, List.foldl_cons]
  rw [foldl_set off r (i + 1)]
  simp
theorem set_aux {α : Type} (A r : List α) (v : α) (l : List α) : (A ++ v :: l.drop (A.length + 1)).take (A.length + 1) ++ r ++ (A ++ v :: l.drop (A.length + 1)).drop (A.length + 1 + r.length) = A ++ v :: r ++ l.drop (A.length + (r.length + 1)) := by
 have e1 : (A ++ v :: l.drop (A.length + 1)).take (A.length + 1) = A ++ [v] := by
  rw [List.take_append]
  simp [List.take_of_length_le (show A.length ≤ A.length + 1 by omega)]
 have e2 : (A ++ v :: l.drop (A.length + 1)).drop (A.length + 1 + r.length) = l.drop (A.length + (r.length + 1)) := by
  rw [show A.length + 1 + r.length = A.length + (r.length + 1) by omega, List.drop_append]
  simp [show A.length + 1 + r.length = A.length + (r.length + 1) by omega]
 rw [e1, e2]
 simp
theorem foldl_put (off : Nat) : ∀ (vs : List Value) (i : Nat) (l : List Value), off + i + vs.length ≤ l.length →
  (vs.zipIdx i).foldl (fun (l : List Value) p => l.set (off + p.2) p.1) l = l.take (off + i) ++ vs ++ l.drop (off + i + vs.length)
 | [], i, l, _ => by simp
 | v :: r, i, l, h => by
  simp only [List.zipIdx_cons, List.foldl_cons]
  simp only [List.length_cons] at h
  rw [foldl_put off r (i + 1) (l.set (off + i) v) (by simp; omega)]
  have hlt : off + i < l.length := by omega
  rw [List.set_eq_take_append_cons_drop, if_pos hlt]
  have h1 : (l.take (off + i)).length = off + i := by simp; omega
  have := set_aux (l.take (off + i)) r v l
  rw [h1] at this
  simpa [show off + (i + 1) = off + i + 1 by omega] using this
theorem putAt_run {cs xs : List AV} {vs us : List Value} {off : Nat} (h : VRt c w cs vs) (hx : VRt c w xs us) : VRt c w (putAt cs off xs) (vs.take off ++ us ++ vs.drop (off + us.length)) := by
 have hl := VRt_length h
 have hl2 := VRt_length hx
 unfold putAt
 rw [hl2]
 refine VRt_mk (by simp [hl, hl2]) fun j x v hj hv => ?_
 simp only [List.append_assoc] at hj hv
 by_cases h1 : j < (cs.take off).length
 ·rw [List.getElem?_append_left h1] at hj
  rw [List.getElem?_append_left (by simpa [hl] using h1)] at hv
  rw [List.getElem?_take] at hj hv
  split at hj
  ·rename_i ho
   rw [if_pos ho] at hv
   obtain ⟨u, hu, hr⟩ := VRt_get h j x hj
   rw [hv] at hu; cases hu; exact hr
  ·cases hj
 ·have h1' : ¬ j < (vs.take off).length := by simpa [hl] using h1
  rw [List.getElem?_append_right (by omega)] at hj
  rw [List.getElem?_append_right (by omega)] at hv
  have e1 : (cs.take off).length = (vs.take off).length := by simp [hl]
  rw [e1] at hj
  generalize j - (vs.take off).length = i at hj hv
  by_cases h2 : i < xs.length
  ·rw [List.getElem?_append_left h2] at hj
   rw [List.getElem?_append_left (by omega)] at hv
   obtain ⟨u, hu, hr⟩ := VRt_get hx i x hj
   rw [hv] at hu; cases hu; exact hr
  ·rw [List.getElem?_append_right (by omega)] at hj
   rw [List.getElem?_append_right (by omega)] at hv
   rw [hl2] at hj
   rw [List.getElem?_drop] at hj hv
   obtain ⟨u, hu, hr⟩ := VRt_get h _ x hj
   rw [hv] at hu; cases hu; exact hr
theorem putAt_one {vs us : List Value} {off : Nat} (h : ∀ u ∈ vs, u.oneCell' = true) (hu : ∀ u ∈ us, u.oneCell' = true) : ∀ u ∈ vs.take off ++ us ++ vs.drop (off + us.length), u.oneCell' = true := by
 intro u hm
 simp only [List.mem_append] at hm
 rcases hm with (hm | hm) | hm
 ·exact h u (List.mem_of_mem_take hm)
 ·exact hu u hm
 ·exact h u (List.mem_of_mem_drop hm)
def VRp (c : Cx) (w : World) : List (Nat × AV) → List (Nat × Value) → Prop
 | [], [] => True
 | p :: r, q :: s => p.1 = q.1 ∧ VR c w p.2 q.2 ∧ VRp c w r s
 | _, _ => False
theorem fillA_run {place : Nat → Option (Nat × Nat)} : ∀ (parts : List (Nat × AV)) (parts' : List (Nat × Value)) (cs r : List AV) (cells : Array Value), fillA place cs parts = some r → VRs c w cs cells.toList → VRp c w parts parts' →
  ∃ cells', Instr.fill place cells parts' = some cells' ∧ VRs c w r cells'.toList
 | [], [], cs, r, cells, h, hc, _ => by
  simp only [fillA] at h
  cases h
  exact ⟨cells, rfl, hc⟩
 | (i, x) :: ps, (i', v) :: qs, cs, r, cells, h, hc, hp => by
  simp only [VRp] at hp
  obtain ⟨rfl, hx, hp⟩ := hp
  simp only [fillA] at h
  split at h
  ·cases h
  ·rename_i off size hpl
   split at h
   ·rename_i hb
    obtain ⟨hok, hlen, hle⟩ := hb
    obtain ⟨h1, h2⟩ := cells_run hx hok
    have hl1 := VRt_length h1
    have hl2 := VRt_length hc.1
    have hsz : v.cells.size = size := by rw [← hlen, hl1, Array.length_toList]
    have hsz2 : cs.length = cells.size := by rw [hl2, Array.length_toList]
    have hfold : (v.cells.zipIdx.foldl (fun cs (c, j) => cs.setIfInBounds (off + j) c) cells).toList = cells.toList.take off ++ v.cells.toList ++ cells.toList.drop (off + v.cells.toList.length) := by
     rw [← Array.foldl_toList, Array.toList_zipIdx]
     rw [foldl_set off v.cells.toList 0 cells]
     have := foldl_put off v.cells.toList 0 cells.toList (by simp only [Array.length_toList]; omega)
     simpa using this
    obtain ⟨cells', hf, hr⟩ := fillA_run ps qs _ r (v.cells.zipIdx.foldl (fun cs (c, j) => cs.setIfInBounds (off + j) c) cells) h (by rw [hfold]; exact ⟨putAt_run hc.1 h1, putAt_one hc.2 h2⟩) hp
    refine ⟨cells', ?_, hr⟩
    simp only [Instr.fill, hpl]
    rw [if_neg (by simp [hsz]; omega)]
    exact hf
   ·cases h
 | [], _ :: _, _, _, _, _, _, hp => by simp [VRp] at hp
 | _ :: _, [], _, _, _, _, _, hp => by simp [VRp] at hp
theorem VRp_parts (hr : Rel G c σ w) {ts : List AV} {a : Act} (h : VRt c w ts a.tmps.toList) (parts : List (Nat × Operand)) : VRp c w (parts.map fun p => (p.1, evOpd G ts p.2)) (parts.map fun p => (p.1, a.eval p.2)) := by
 induction parts with
 | nil => simp [VRp]
 | cons p r ih => simp only [List.map_cons, VRp]; exact ⟨trivial, VR_opd hr h _, ih⟩
theorem zeroT_spec {t : TypeId} {z : List AV} (h : zeroT P t = some z) : ∃ i v, P.info? t = some i ∧ i.zero = some v ∧ z = v.cells.toList.map toAV ∧ ∀ u ∈ v.cells.toList, u.oneCell' = true := by
 unfold zeroT at h
 obtain ⟨v, hv, h⟩ := Option.bind_eq_some_iff.1 h
 obtain ⟨i, hi, hz⟩ := Option.bind_eq_some_iff.1 hv
 split at h
 ·rename_i ha
  cases h
  exact ⟨i, v, hi, hz, rfl, fun u hu => List.all_eq_true.1 ha u hu⟩
 ·cases h
theorem szT_spec {t : TypeId} {n : Nat} (h : szT P t = some n) : ∃ i, P.info? t = some i ∧ i.size = n := by
 unfold szT at h
 obtain ⟨i, hi, rfl⟩ := Option.map_eq_some_iff.1 h
 exact ⟨i, hi, rfl⟩
theorem byT_spec {t : TypeId} {n : Nat} (h : byT P t = some n) : ∃ i, P.info? t = some i ∧ i.bytes = n := by
 unfold byT at h
 obtain ⟨i, hi, rfl⟩ := Option.map_eq_some_iff.1 h
 exact ⟨i, hi, rfl⟩
theorem fldsT_spec {t : TypeId} {fs : List (Nat × Nat)} (h : fldsT P t = some fs) : ∃ F, P.underlying t = some (.struct F) ∧ F.toList.mapM (fun f => (P.info? f.type).map fun i => (f.offset, i.size)) = some fs := by
 unfold fldsT at h
 split at h
 ·rename_i F hu
  refine ⟨F, hu, ?_⟩
  have : (fun f : Field => (szT P f.type).map fun n => (f.offset, n)) = fun f => (P.info? f.type).map fun i => (f.offset, i.size) := by
   funext f
   unfold szT
   cases P.info? f.type <;> rfl
  rw [← this]
  exact h
 ·cases h
theorem evBuild_run {ty : TypeId} {parts : List (Nat × AV)} {parts' : Array (Nat × Value)} {r : AV} (h : evBuild G ty parts = some r) (hp : VRp c w parts parts'.toList) :
  ∃ v, (Instr.build ty parts').run G.P w = .ok v w ∧ VR c w r v := by
 unfold evBuild at h
 split at h
 ·rename_i z hz
  obtain ⟨it, zv, hit, hzv, rfl, hz1⟩ := zeroT_spec hz
  have hzr : VRs c w (zv.cells.toList.map toAV) zv.cells.toList := ⟨VRt_toAV _, hz1⟩
  split at h
  ·rename_i fs hf
   obtain ⟨F, hu, hF⟩ := fldsT_spec hf
   obtain ⟨cs, hcs, rfl⟩ := Option.map_eq_some_iff.1 h
   obtain ⟨cells', h1, h2⟩ := fillA_run _ _ _ _ zv.cells hcs hzr hp
   refine ⟨.agg cells', run_build w ty parts' cells' ?_, ?_⟩
   ·unfold Program.built
    rw [hit, hu]
    simp only [hzv, hF]
    rw [← h1]
    congr 1
    funext i
    simp
   ·simp only [VR]; exact ⟨_, rfl, h2.1, h2.2⟩
  ·split at h
   ·rename_i n el ha
    have hu := arT_spec ha
    split at h
    ·rename_i s hs
     obtain ⟨ie, hie, rfl⟩ := szT_spec hs
     obtain ⟨cs, hcs, rfl⟩ := Option.map_eq_some_iff.1 h
     obtain ⟨cells', h1, h2⟩ := fillA_run _ _ _ _ zv.cells hcs hzr hp
     refine ⟨.agg cells', run_build w ty parts' cells' ?_, ?_⟩
     ·unfold Program.built
      rw [hit, hu]
      simp only [hzv, hie]
      exact h1
     ·simp only [VR]; exact ⟨_, rfl, h2.1, h2.2⟩
    ·cases h
   ·cases h
 ·cases h
theorem elems_run (hR : Rel G c σ w) {e n : Nat} {x : AV} {v : Value} {xs : List AV} {ids : List Id} (h : elems σ e x = some (n, xs, ids)) (hx : VR c w x v) :
  xs.length = n * e ∧ ∃ A k, v = .slice A n k ∧ n ≤ k ∧ (xs = [] ∨ ∃ b off, A = some ⟨b, off, none⟩ ∧ VCs (c.ok w) w xs b off) := by
 cases x with
 | emp =>
  simp only [elems] at h
  cases h
  obtain ⟨A, rfl⟩ := VR_emp.1 hx
  exact ⟨by simp, A, 0, rfl, Nat.le_refl _, .inl rfl⟩
 | sl e' n' ys =>
  simp only [elems] at h
  split at h
  ·rename_i hb
   cases h
   obtain ⟨A, k, rfl, h1, h2, h3⟩ := VR_sl.1 hx
   refine ⟨hb, A, k, rfl, h1, ?_⟩
   rcases h3 with h3 | ⟨b, off, h4, _, h5⟩
   ·exact .inl h3
   ·exact .inr ⟨b, off, h4, h5⟩
  ·cases h
 | own id sub off n' cap =>
  simp only [elems] at h
  split at h
  ·rename_i cs e' hrow
   split at h
   ·rename_i he
    subst he
    obtain ⟨ys, hys, hq⟩ := Option.map_eq_some_iff.1 h
    cases hq
    obtain ⟨hle, hye⟩ := takeAt_some hys
    obtain ⟨hkn, A, k, rfl, hn, hc, hA0, hm0, hm⟩ := VR_own.1 hx
    have hl : xs.length = n * e' := by subst hye; simp; omega
    refine ⟨hl, A, k, rfl, hn, ?_⟩
    rcases hR.row hrow with ⟨h1, h2⟩ | ⟨b, sh, h1, _, h2⟩
    ·subst h2; left; subst hye; simp
    ·obtain ⟨hA, _⟩ := hm b sh e' h1
     rcases hA with hA | hA
     ·left
      have : n = 0 := by omega
      subst this
      exact List.eq_nil_of_length_eq_zero (by simpa using hl)
     ·exact .inr ⟨b, sh + off, hA, by rw [hye]; exact VCs_take (VCs_drop h2)⟩
   ·cases h
  ·cases h
 | _ => simp [elems] at h
end
end Go.Ev
namespace Go.Ev
open Go Go.RowKit
theorem get_put_same (σ : Store) (i : Id) (b : Blk) : (σ.put i b).get? i = some b := by
 induction σ with
 | nil => simp [Store.put, Store.get?]
 | cons p r ih =>
  obtain ⟨j, q⟩ := p
  simp only [Store.put]
  split
  ·simp [Store.get?]
  ·rename_i h; simp only [Store.get?]; rw [if_neg h]; exact ih
theorem get_put_ne (σ : Store) {i j : Id} (b : Blk) (h : j ≠ i) : (σ.put i b).get? j = σ.get? j := by
 induction σ with
 | nil => simp [Store.put, Store.get?, Ne.symm h]
 | cons p r ih =>
  obtain ⟨k, q⟩ := p
  simp only [Store.put]
  split
  ·rename_i hk; subst hk; simp only [Store.get?]; rw [if_neg (Ne.symm h), if_neg (Ne.symm h)]
  ·simp only [Store.get?]; split
   ·rfl
   ·exact ih
theorem has_put (σ : Store) (i j : Id) (b : Blk) : (σ.put i b).has j = true ↔ σ.has j = true ∨ j = i := by
 induction σ with
 | nil => simp [Store.put, Store.has]; constructor <;> intro h <;> exact h.symm
 | cons p r ih =>
  obtain ⟨k, q⟩ := p
  simp only [Store.put]
  split
  ·rename_i hk
   subst hk
   simp only [Store.has]
   split
   ·rename_i h; subst h; simp
   ·rename_i h; constructor
    ·exact .inl
    ·rintro (h' | h')
     ·exact h'
     ·exact absurd h'.symm h
  ·simp only [Store.has]; split
   ·simp
   ·exact ih
theorem get_del_same (σ : Store) (i : Id) : (σ.del i).get? i = none := by
 induction σ with
 | nil => rfl
 | cons p r ih =>
  obtain ⟨j, q⟩ := p
  simp only [Store.del]
  split
  ·rename_i h; simp [Store.get?, h]
  ·rename_i h; simp only [Store.get?]; rw [if_neg h]; exact ih
theorem get_del_ne (σ : Store) {i j : Id} (h : j ≠ i) : (σ.del i).get? j = σ.get? j := by
 induction σ with
 | nil => rfl
 | cons p r ih =>
  obtain ⟨k, q⟩ := p
  simp only [Store.del]
  split
  ·rename_i hk; subst hk; simp only [Store.get?]; rw [if_neg (Ne.symm h), if_neg (Ne.symm h)]
  ·simp only [Store.get?]; split
   ·rfl
   ·exact ih
theorem has_del (σ : Store) (i j : Id) : (σ.del i).has j = σ.has j := by
 induction σ with
 | nil => rfl
 | cons p r ih =>
  obtain ⟨k, q⟩ := p
  simp only [Store.del]
  split
  ·simp only [Store.has]
  ·simp only [Store.has]; split
   ·rfl
   ·exact ih
theorem get_none_of_has {σ : Store} {i : Id} (h : σ.has i = false) : σ.get? i = none := by
 cases hg : σ.get? i with
 | none => rfl
 | some b => rw [has_of_get hg] at h; cases h
section
variable {G : Cfg} {c c' : Cx} {σ σ' : Store} {w w' : World}
theorem BlkOk_ext (h : Ext c w c' w') (hs : c.Sok w) (hlt : ∀ b, c.at_ b → b < w.heap.size) {id : Id} {blk : Blk}
  (hm : ∀ sub, c'.m (id, sub) = c.m (id, sub)) (hh : ∀ sub b sh e, c.m (id, sub) = some (some (b, sh, e)) → w'.heap[b]? = w.heap[b]?) (hb : BlkOk c w id blk) : BlkOk c' w' id blk := by
 rcases hb with ⟨h1, h2, h3⟩ | ⟨b, sh, h1, h2, h3, h4⟩
 ·exact .inl ⟨by rw [hm]; exact h1, h2, h3⟩
 ·have hhb := hh none b sh _ h1
  refine .inr ⟨b, sh, by rw [hm]; exact h1, ?_, by rw [h.base]; exact h3, ?_⟩
  ·obtain ⟨cs, t, hp⟩ := h2; exact ⟨cs, t, by rw [hhb]; exact hp⟩
  ·intro j x hx
   obtain ⟨v, hv, hc⟩ := h4 j x hx
   refine ⟨v, by rw [cell_of_heap hhb]; exact hv, ?_⟩
   unfold CellOk at hc ⊢
   refine ⟨hc.1, ?_⟩
   split
   ·rename_i ha
    rw [if_pos ha] at hc
    refine ⟨VC_mono (h.stable hs) _ _ hc.2.1, fun e n xs he => ?_⟩
    obtain ⟨A, k, hv, hn, hk⟩ := hc.2.2 e n xs he
    refine ⟨A, k, hv, hn, ?_⟩
    rcases hk with ⟨k1, k2, k3⟩ | ⟨b', sh', k1, k2, k3, k4, ⟨t, z, k5, k6⟩, k7⟩
    ·exact .inl ⟨by rw [hm]; exact k1, k2, k3⟩
    ·have hhb' := hh _ b' sh' _ k1
     refine .inr ⟨b', sh', by rw [hm]; exact k1, k2, ?_, by rw [h.base]; exact k4, ⟨t, z, ?_, k6⟩, ?_⟩
     ·obtain ⟨cs, t', hp⟩ := k3; exact ⟨cs, t', by rw [hhb']; exact hp⟩
     ·rw [h.shape b' (hlt b' ⟨_, _, _, k1⟩)]; exact k5
     ·exact VCs_mono (h.stable hs) _ _ _ hhb' k7
   ·rename_i ha
    rw [if_neg ha] at hc
    exact VR_ext h hs hlt _ _ hc.2
noncomputable def Cx.move (c : Cx) (D : Id → Prop) (i : Id) (new : Option Nat → Option (Option (Nat × Nat × Nat))) : Cx where
 m := fun k => by classical exact if k.1 = i then new k.2 else if D k.1 then none else c.m k
 kn := fun j => c.kn j ∨ j = i
 S := c.S
 base := c.base
theorem move_same (D : Id → Prop) (i : Id) (new : Option Nat → Option (Option (Nat × Nat × Nat))) (sub : Option Nat) : (c.move D i new).m (i, sub) = new sub := by simp [Cx.move]
theorem move_ne (D : Id → Prop) (i : Id) (new : Option Nat → Option (Option (Nat × Nat × Nat))) {j : Id} (h : j ≠ i) (sub : Option Nat) (hD : ¬ D j) : (c.move D i new).m (j, sub) = c.m (j, sub) := by simp [Cx.move, h, hD]
theorem move_D (D : Id → Prop) (i : Id) (new : Option Nat → Option (Option (Nat × Nat × Nat))) {j : Id} (h : j ≠ i) (sub : Option Nat) (hD : D j) : (c.move D i new).m (j, sub) = none := by simp [Cx.move, h, hD]
structure Frame' (c : Cx) (w w' : World) : Prop where
 size : w.heap.size ≤ w'.heap.size
 keep : ∀ b, b < w.heap.size → ¬ c.at_ b → w'.heap[b]? = w.heap[b]?
 shape : ∀ b, b < w.heap.size → w'.shape? b = w.shape? b
 os : w'.os = w.os
 tape : w'.tape = w.tape
 output : w'.output = w.output
theorem Frame'.refl (c : Cx) (w : World) : Frame' c w w := ⟨Nat.le_refl _, fun _ _ _ => rfl, fun _ _ => rfl, rfl, rfl, rfl⟩
theorem Frame'.alloc (c : Cx) (w : World) (o : Obj) : Frame' c w (w.alloc o) where
 size := by simp
 keep := fun b hb _ => Below.heap_alloc _ _ _ hb
 shape := fun b hb => by unfold World.shape?; rw [Below.heap_alloc _ _ _ hb]
 os := rfl
 tape := rfl
 output := rfl
theorem Frame'.drew (c : Cx) (w : World) : Frame' c w w.drew := ⟨Nat.le_refl _, fun _ _ _ => rfl, fun _ _ => rfl, rfl, rfl, rfl⟩
theorem Frame'.trans {w'' : World} (h : Frame' c w w') (k : Frame' c w' w'') : Frame' c w w'' where
 size := Nat.le_trans h.size k.size
 keep := fun b hb hn => (k.keep b (Nat.lt_of_lt_of_le hb h.size) hn).trans (h.keep b hb hn)
 shape := fun b hb => (k.shape b (Nat.lt_of_lt_of_le hb h.size)).trans (h.shape b hb)
 os := k.os.trans h.os
 tape := k.tape.trans h.tape
 output := k.output.trans h.output
theorem Ext.move (hf : Frame' c w w') {D : Id → Prop} {i : Id} {new : Option Nat → Option (Option (Nat × Nat × Nat))} (hi : ¬ c.kn i)
  (hnew : ∀ sub b sh e, new sub = some (some (b, sh, e)) → c.at_ b ∨ w.heap.size ≤ b) : Ext c w (c.move D i new) w' where
 base := rfl
 S := rfl
 size := hf.size
 kn := fun id h => .inl h
 m := fun id sub hk => by
  have hne : id ≠ i := fun e => hi (e ▸ hk)
  by_cases hD : D id
  ·exact .inl (move_D D i new hne sub hD)
  ·exact .inr (move_ne D i new hne sub hD)
 new := fun b ⟨k, sh, e, hk⟩ => by
  obtain ⟨j, sub⟩ := k
  by_cases hj : j = i
  ·subst hj
   rw [move_same] at hk
   exact hnew sub b sh e hk
  ·by_cases hD : D j
   ·rw [move_D D i new hj sub hD] at hk; cases hk
   ·rw [move_ne D i new hj sub hD] at hk
    exact .inl ⟨_, _, _, hk⟩
 keep := hf.keep
 shape := hf.shape
 os := hf.os
 tape := hf.tape
 output := hf.output
theorem Rel.move (hR : Rel G c σ w) (hf : Frame' c w w') {D : Id → Prop} {i : Id} {new : Option Nat → Option (Option (Nat × Nat × Nat))} {blk : Blk} (hi : ¬ c.kn i)
  (hnew : ∀ sub b sh e, new sub = some (some (b, sh, e)) → (w.heap.size ≤ b ∧ b < w'.heap.size) ∨ ∃ j s sh' e', D j ∧ c.m (j, s) = some (some (b, sh', e')))
  (hinj : ∀ s s' b sh e sh' e', new s = some (some (b, sh, e)) → new s' = some (some (b, sh', e')) → s = s')
  (hsub : ∀ p, new (some p) ≠ none → blk.arr = true ∧ ∃ e n xs, blk.cells[p]? = some (.nst e n xs))
  (hhas : ∀ j, σ'.has j = true ↔ σ.has j = true ∨ j = i) (hget : σ'.get? i = some blk) (hD : ∀ j, j ≠ i → D j → σ'.get? j = none) (hother : ∀ j, j ≠ i → ¬ D j → σ'.get? j = σ.get? j)
  (hheap : ∀ j sub b sh e, ¬ D j → c.m (j, sub) = some (some (b, sh, e)) → w'.heap[b]? = w.heap[b]?)
  (hblk : BlkOk (c.move D i new) w' i blk) : Rel G (c.move D i new) σ' w' := by
 have hnew' : ∀ sub b sh e, new sub = some (some (b, sh, e)) → c.at_ b ∨ w.heap.size ≤ b := by
  intro sub b sh e h
  rcases hnew sub b sh e h with h | ⟨j, s, sh', e', _, h⟩
  ·exact .inr h.1
  ·exact .inl ⟨_, _, _, h⟩
 have hE : Ext c w (c.move D i new) w' := Ext.move hf hi hnew'
 have hcase : ∀ j sub b sh e, (c.move D i new).m (j, sub) = some (some (b, sh, e)) → (j = i ∧ new sub = some (some (b, sh, e))) ∨ (j ≠ i ∧ ¬ D j ∧ c.m (j, sub) = some (some (b, sh, e))) := by
  intro j sub b sh e h
  by_cases hj : j = i
  ·subst hj; rw [move_same] at h; exact .inl ⟨rfl, h⟩
  ·by_cases hDj : D j
   ·rw [move_D D i new hj sub hDj] at h; cases h
   ·rw [move_ne D i new hj sub hDj] at h; exact .inr ⟨hj, hDj, h⟩
 have hapart : ∀ sub b sh e j s sh' e', new sub = some (some (b, sh, e)) → ¬ D j → c.m (j, s) = some (some (b, sh', e')) → False := by
  intro sub b sh e j s sh' e' h hDj hm
  rcases hnew sub b sh e h with h | ⟨j2, s2, sh2, e2, hD2, h2⟩
  ·have := hR.lt b ⟨_, _, _, hm⟩; omega
  ·have := hR.inj _ _ _ _ _ _ _ h2 hm
   cases this
   exact hDj hD2
 refine ⟨?_, ?_, ?_, ?_, ?_, ?_, ?_, ?_, know_ext hR hE⟩
 ·rintro ⟨j, s⟩ ⟨j', s'⟩ b sh e sh' e' h1 h2
  rcases hcase _ _ _ _ _ h1 with ⟨e1, k1⟩ | ⟨_, d1, k1⟩ <;> rcases hcase _ _ _ _ _ h2 with ⟨e2, k2⟩ | ⟨_, d2, k2⟩
  ·rw [e1, e2, hinj _ _ _ _ _ _ _ k1 k2]
  ·exact (hapart _ _ _ _ _ _ _ _ k1 d2 k2).elim
  ·exact (hapart _ _ _ _ _ _ _ _ k2 d1 k1).elim
  ·exact hR.inj _ _ _ _ _ _ _ k1 k2
 ·rintro b ⟨⟨j, s⟩, sh, e, h⟩
  rcases hcase _ _ _ _ _ h with ⟨_, k⟩ | ⟨_, _, h⟩
  ·rcases hnew _ _ _ _ k with h | ⟨j2, s2, sh2, e2, _, h2⟩
   ·exact h.2
   ·exact Nat.lt_of_lt_of_le (hR.lt b ⟨_, _, _, h2⟩) hf.size
  ·exact Nat.lt_of_lt_of_le (hR.lt b ⟨_, _, _, h⟩) hf.size
 ·intro j
  rw [hhas]
  show (c.kn j ∨ j = i) ↔ _
  rw [hR.kn j]
 ·intro j sub h
  by_cases hj : j = i
  ·subst hj
   rw [move_same] at h
   refine ⟨blk, hget, fun p hp => ?_⟩
   subst hp
   exact hsub p h
  ·by_cases hDj : D j
   ·rw [move_D D i new hj sub hDj] at h; exact absurd rfl h
   ·rw [move_ne D i new hj sub hDj] at h
    obtain ⟨b, hb, hp⟩ := hR.dom j sub h
    exact ⟨b, by rw [hother j hj hDj]; exact hb, hp⟩
 ·intro j b hb
  by_cases hj : j = i
  ·subst hj
   rw [hget] at hb
   cases hb
   exact hblk
  ·by_cases hDj : D j
   ·rw [hD j hj hDj] at hb; cases hb
   ·rw [hother j hj hDj] at hb
    exact BlkOk_ext hE hR.Sok hR.lt (fun sub => move_ne D i new hj sub hDj) (fun sub b sh e h => hheap j sub b sh e hDj h) (hR.blk j b hb)
 ·intro b hb
  refine ⟨(hR.sS b hb).1, ?_⟩
  rintro ⟨⟨j, s⟩, sh, e, h⟩
  rcases hcase _ _ _ _ _ h with ⟨_, k⟩ | ⟨_, _, h⟩
  ·rcases hnew _ _ _ _ k with h | ⟨j2, s2, sh2, e2, _, h2⟩
   ·have := (hR.sS b hb).1; have := hR.base; omega
   ·exact (hR.sS b hb).2 ⟨_, _, _, h2⟩
  ·exact (hR.sS b hb).2 ⟨_, _, _, h⟩
 ·exact Nat.le_trans hR.base hf.size
 ·intro g cs hg
  obtain ⟨h1, h2⟩ := hR.glob g cs hg
  exact ⟨h1, VCs_mono (hE.stable hR.Sok) _ _ _ (hE.stable hR.Sok g (.inl h1)).2 h2⟩
end
end Go.Ev
namespace Go.Ev
open Go Go.RowKit
section
variable {G : Cfg} {c c' : Cx} {σ σ' : Store} {w w' : World} {P : Program}
def okD (c : Cx) (w : World) (D : Id → Prop) (inl : Bool) (b : Nat) : Prop := c.ok w b ∨ ∃ j sub sh e, D j ∧ c.m (j, sub) = some (some (b, sh, e)) ∧ c.base ≤ b ∧ (sub = none → inl = false)
def NstInfo (c : Cx) (w : World) (okx : Nat → Prop) (κ : Key) (e n : Nat) (xs : List AV) (v : Value) : Prop :=
 ∃ A k, v = .slice A n k ∧ n ≤ k ∧ ((xs = [] ∧ k = 0) ∨ ∃ b sh, c.m κ = some (some (b, sh, e)) ∧ A = some ⟨b, sh, none⟩ ∧ Plain w b ∧ c.base ≤ b ∧ (∃ t z, w.shape? b = some (t, z) ∧ sh + k * e ≤ z) ∧ VCs okx w xs b sh)
theorem VCs_map {ok ok' : Nat → Prop} {f : AV → AV} {xs : List AV} {b off : Nat} (h : VCs ok w xs b off) (hf : ∀ (j : Nat) x v, xs[j]? = some x → w.cell? ⟨b, off + j, none⟩ = some v → VC ok w x v → VC ok' w (f x) v) : VCs ok' w (xs.map f) b off :=
 VCs_mk fun j y hy => by
  rw [List.getElem?_map] at hy
  obtain ⟨x, hx, rfl⟩ := Option.map_eq_some_iff.1 hy
  obtain ⟨v, hv, hc⟩ := VCs_get h j x hx
  exact ⟨v, hv, hf j x v hx hv hc⟩
theorem VC_ok {ok ok' : Nat → Prop} (hk : ∀ b, ok b → ok' b) {x : AV} {v : Value} (h : VC ok w x v) : VC ok' w x v := VC_mono (fun b hb => ⟨hk b hb, rfl⟩) x v h
theorem VCs_ok {ok ok' : Nat → Prop} (hk : ∀ b, ok b → ok' b) {xs : List AV} {b off : Nat} (h : VCs ok w xs b off) : VCs ok' w xs b off := VCs_mono (fun b hb => ⟨hk b hb, rfl⟩) xs b off rfl h
theorem VR_flat {x : AV} {v : Value} (h : VR c w x v) (hf : x.flat = true) : VC (c.ok w) w x v := by
 cases x <;> simp only [AV.flat] at hf <;> simp only [VR, VC] at h ⊢ <;> first | exact ⟨h, hf⟩ | exact h | cases hf
theorem frz_row (hR : Rel G c σ w) {id : Id} {blk : Blk} (hb : σ.get? id = some blk) (ha : blk.arr = true) (hfr : blk.fr = true) {D : Id → Prop} (hD : D id) (inl : Bool) {b sh : Nat} (hm : c.m (id, none) = some (some (b, sh, blk.esz))) :
  VCs (okD c w D inl) w (if blk.nest = true then blk.cells.map frz else blk.cells) b sh := by
 have hrow : rowOf σ id none = some (blk.cells, blk.esz) := by simp [rowOf, hb, ha]
 rcases hR.row hrow with ⟨h1, _⟩ | ⟨b', sh', h1, _, h2⟩
 ·rw [h1] at hm; cases hm
 ·rw [h1] at hm
  cases hm
  have h3 : VCs (okD c w D inl) w blk.cells b sh := VCs_ok (fun b hb => .inl hb) h2
  split
  ·refine VCs_map h3 fun j x v hx hv hc => ?_
   cases x with
   | nst e n xs =>
    rcases hR.blk id blk hb with ⟨h4, _⟩ | ⟨b2, sh2, h4, _, _, h5⟩
    ·rw [h4] at h1; cases h1
    ·rw [h4] at h1; cases h1
     obtain ⟨v', hv', hcell⟩ := h5 j _ hx
     rw [hv] at hv'; cases hv'
     unfold CellOk at hcell
     rw [if_pos ha] at hcell
     obtain ⟨A, k, rfl, hn, hk⟩ := hcell.2.2 _ _ _ rfl
     simp only [frz, VC]
     rcases hk with ⟨_, rfl, rfl⟩ | ⟨b', sh', k1, rfl, _, k4, _, k6⟩
     ·exact ⟨A, 0, rfl, hn, NN.of fun _ => by omega, .inl rfl⟩
     ·exact ⟨_, k, rfl, hn, NN.of (by simp), .inr ⟨b', sh', rfl, .inr ⟨id, some j, sh', e, hD, k1, k4 hfr, by simp⟩, VCs_ok (fun b hb => .inl hb) k6⟩⟩
   | _ => exact hc
  ·exact h3
theorem handIn_run (hR : Rel G c σ w) {inl : Bool} {x y : AV} {v : Value} {τ : Store} {ids : List Id} (h : handIn inl σ x = some (y, τ, ids)) (hx : VR c w x v) {D : Id → Prop} (hD : ∀ j, j ∈ ids → D j) :
  VC (okD c w D inl) w y v ∧ (∀ e n xs, y = .nst e n xs → ∃ j, ids = [j] ∧ inl = true ∧ NstInfo c w (okD c w D inl) (j, none) e n xs v) ∧
   ((ids = [] ∧ τ = σ) ∨ ∃ j blk, ids = [j] ∧ τ = σ.del j ∧ σ.get? j = some blk) := by
 unfold handIn at h
 split at h
 ·rename_i id off n cap
  split at h
  ·rename_i blk hb
   split at h
   ·rename_i hc
    obtain ⟨ha, hfr, rfl, hlen, hncap⟩ := hc
    cases h
    have hDid : D id := hD id (List.mem_singleton.2 rfl)
    obtain ⟨hkn, A, k, rfl, hn, hcap, hA0, hm0, hm⟩ := VR_own.1 hx
    have hblk := hR.blk id blk hb
    have key : (blk.cells = [] ∧ k = 0) ∨ ∃ b sh, c.m (id, none) = some (some (b, sh, blk.esz)) ∧ (k = 0 ∨ A = some ⟨b, sh, none⟩) ∧ Plain w b ∧ c.base ≤ b ∧ (∃ t z, w.shape? b = some (t, z) ∧ sh + k * blk.esz ≤ z) ∧
      VCs (okD c w D inl) w (if blk.nest = true then blk.cells.map frz else blk.cells) b sh := by
     rcases hblk with ⟨h1, h2, _⟩ | ⟨b, sh, h1, h2, h3, _⟩
     ·exact .inl ⟨h2, hm0 h1⟩
     ·obtain ⟨hA, t, z, hz, hle⟩ := hm b sh _ h1
      exact .inr ⟨b, sh, h1, by simpa using hA, h2, h3 hfr, ⟨t, z, hz, by simpa using hle⟩, frz_row hR hb ha hfr hDid inl h1⟩
    have hcells : k = 0 → blk.cells = [] := by
     intro hk
     have : n = 0 := by omega
     subst this
     exact List.eq_nil_of_length_eq_zero (by simpa using hlen)
    refine ⟨?_, ?_, .inr ⟨id, blk, rfl, rfl, hb⟩⟩
    ·cases inl with
     | true => simp only [if_true, VC]; exact ⟨A, k, rfl, hn⟩
     | false =>
      simp only [Bool.false_eq_true, if_false, VC]
      refine ⟨A, k, rfl, hn, NN.of fun hA => by have := hA0 hA; omega, ?_⟩
      rcases key with ⟨h1, _⟩ | ⟨b, sh, h1, h2, _, h4, _, h6⟩
      ·left; split <;> simp [h1]
      ·rcases h2 with h2 | h2
       ·left; split <;> simp [hcells h2]
       ·exact .inr ⟨b, sh, h2, .inr ⟨id, none, sh, _, hDid, h1, h4, fun _ => rfl⟩, h6⟩
    ·intro e n' xs hy
     cases inl with
     | false => simp at hy
     | true =>
      simp only [if_true] at hy
      cases hy
      refine ⟨id, rfl, rfl, A, k, rfl, hn, ?_⟩
      rcases key with ⟨h1, h2⟩ | ⟨b, sh, h1, h2, h3, h4, h5, h6⟩
      ·exact .inl ⟨by split <;> simp [h1], h2⟩
      ·rcases h2 with h2 | h2
       ·exact .inl ⟨by split <;> simp [hcells h2], h2⟩
       ·exact .inr ⟨b, sh, h1, h2, h3, h4, h5, h6⟩
   ·split at h
    ·rename_i hc
     obtain ⟨rfl, ha, hfr, rfl, hlen, hncap⟩ := hc
     cases h
     have hDid : D id := hD id (List.mem_singleton.2 rfl)
     obtain ⟨hkn, A, k, rfl, hn, hcap, hA0, hm0, hm⟩ := VR_own.1 hx
     have hblk := hR.blk id blk hb
     have key : (blk.cells = [] ∧ k = 0) ∨ ∃ b sh, c.m (id, none) = some (some (b, sh, blk.esz)) ∧ (k = 0 ∨ A = some ⟨b, sh, none⟩) ∧ c.base ≤ b ∧
       VCs (okD c w D false) w (if blk.nest = true then blk.cells.map frz else blk.cells) b sh := by
      rcases hblk with ⟨h1, h2, _⟩ | ⟨b, sh, h1, h2, h3, _⟩
      ·exact .inl ⟨h2, hm0 h1⟩
      ·obtain ⟨hA, _⟩ := hm b sh _ h1
       exact .inr ⟨b, sh, h1, by simpa using hA, h3 hfr, frz_row hR hb ha hfr hDid false h1⟩
     refine ⟨?_, fun e n' xs hy => (by cases hy), .inr ⟨id, blk, rfl, rfl, hb⟩⟩
     simp only [VC]
     refine ⟨A, k, rfl, hn, NN.of fun hA => by have := hA0 hA; omega, ?_⟩
     rcases key with ⟨h1, _⟩ | ⟨b, sh, h1, h2, h4, h6⟩
     ·left; split <;> simp [h1]
     ·rcases h2 with h2 | h2
      ·left
       have : n = 0 := by omega
       subst this
       simp
      ·exact .inr ⟨b, sh, h2, .inr ⟨id, none, sh, _, hDid, h1, h4, fun _ => rfl⟩, VCs_take h6⟩
    ·cases h
  ·cases h
 ·cases h
 ·cases h
 ·cases h
  obtain ⟨A, rfl⟩ := VR_emp.1 hx
  cases inl with
  | true =>
   refine ⟨by simp only [if_true, VC]; exact ⟨A, rfl⟩, ?_, .inl ⟨rfl, rfl⟩⟩
   intro e n xs hy
   simp at hy
  | false =>
   refine ⟨by simp only [Bool.false_eq_true, if_false, VC]; exact ⟨A, 0, rfl, Nat.le_refl _, NN.of fun _ => rfl, .inl trivial⟩, ?_, .inl ⟨rfl, rfl⟩⟩
   intro e n xs hy
   simp at hy
 ·split at h
  ·rename_i hfl
   cases h
   refine ⟨VC_ok (fun b hb => .inl hb) (VR_flat hx hfl), ?_, .inl ⟨rfl, rfl⟩⟩
   intro e n xs hy
   subst hy
   simp [AV.flat] at hfl
  ·cases h
structure Gone (σ τ : Store) (ids : List Id) : Prop where
 has : ∀ j, τ.has j = σ.has j
 gone : ∀ j, j ∈ ids → τ.get? j = none
 other : ∀ j, j ∉ ids → τ.get? j = σ.get? j
 was : ∀ j, j ∈ ids → ∃ blk, σ.get? j = some blk
 nodup : ids.Nodup
theorem Gone.nil (σ : Store) : Gone σ σ [] := ⟨fun _ => rfl, by simp, fun _ _ => rfl, by simp, by simp⟩
theorem Gone.del {τ : Store} {ids : List Id} (h : Gone σ τ ids) {j : Id} {blk : Blk} (hj : τ.get? j = some blk) : Gone σ (τ.del j) (ids ++ [j]) := by
 have hnot : j ∉ ids := fun hm => by rw [h.gone j hm] at hj; cases hj
 refine ⟨fun i => by rw [has_del]; exact h.has i, fun i hi => ?_, fun i hi => ?_, fun i hi => ?_, ?_⟩
 ·rcases List.mem_append.1 hi with hi | hi
  ·by_cases e : i = j
   ·subst e; exact get_del_same _ _
   ·rw [get_del_ne _ e]; exact h.gone i hi
  ·obtain rfl := List.mem_singleton.1 hi
   exact get_del_same _ _
 ·have h1 : i ∉ ids := fun hm => hi (List.mem_append.2 (.inl hm))
  have h2 : i ≠ j := fun e => hi (List.mem_append.2 (.inr (List.mem_singleton.2 e)))
  rw [get_del_ne _ h2]
  exact h.other i h1
 ·rcases List.mem_append.1 hi with hi | hi
  ·exact h.was i hi
  ·obtain rfl := List.mem_singleton.1 hi
   rw [h.other _ hnot] at hj
   exact ⟨_, hj⟩
 ·rw [List.nodup_append]
  exact ⟨h.nodup, by simp, by intro a ha b hb e; obtain rfl := List.mem_singleton.1 hb; subst e; exact hnot ha⟩
theorem handIn_back {τ : Store} {ids0 : List Id} (hg : Gone σ τ ids0) {inl : Bool} {x y : AV} {τ' : Store} {ids : List Id} (h : handIn inl τ x = some (y, τ', ids)) :
  (∃ τ2, handIn inl σ x = some (y, τ2, ids)) ∧ Gone σ τ' (ids0 ++ ids) := by
 unfold handIn at h
 split at h
 ·rename_i id off n cap
  split at h
  ·rename_i blk hb
   have hbσ : σ.get? id = some blk := by
    rw [← hg.other id (fun hm => by rw [hg.gone id hm] at hb; cases hb)]; exact hb
   split at h
   ·rename_i hc
    cases h
    refine ⟨⟨σ.del id, ?_⟩, hg.del hb⟩
    unfold handIn
    simp only [hbσ]
    rw [if_pos hc]
   ·rename_i hnc
    split at h
    ·rename_i hc
     cases h
     refine ⟨⟨σ.del id, ?_⟩, hg.del hb⟩
     unfold handIn
     simp only [hbσ]
     rw [if_neg hnc, if_pos hc]
    ·cases h
  ·cases h
 ·cases h
 ·cases h
 ·cases h
  exact ⟨⟨σ, rfl⟩, by simpa using hg⟩
 ·rename_i h1 h2 h3 h4
  split at h
  ·rename_i hfl
   cases h
   refine ⟨⟨σ, ?_⟩, by simpa using hg⟩
   unfold handIn
   split
   ·exact absurd rfl (h1 _ _ _ _)
   ·exact absurd rfl (h2 _ _ _ _ _)
   ·exact absurd rfl (h3 _ _ _)
   ·exact absurd rfl h4
   ·rw [if_pos hfl]
  ·cases h
structure Handed (c : Cx) (w : World) (D : Id → Prop) (inl : Bool) (ys : List AV) (vs : List Value) (js : List (Option Id)) (ids : List Id) : Prop where
 len : ys.length = vs.length
 lenj : js.length = ys.length
 ids : js.filterMap id = ids
 cell : ∀ (p : Nat) y v, ys[p]? = some y → vs[p]? = some v → VC (okD c w D inl) w y v ∧ ∀ e n xs, y = .nst e n xs → ∃ j, js[p]? = some (some j) ∧ inl = true ∧ NstInfo c w (okD c w D inl) (j, none) e n xs v
theorem handAll_run (hR : Rel G c σ w) {inl : Bool} {D : Id → Prop} : ∀ (xs : List AV) (vs : List Value) (τ : Store) (ids0 : List Id) (ys : List AV) (τ' : Store) (ids : List Id), Gone σ τ ids0 → handAll inl τ xs = some (ys, τ', ids) → VRt c w xs vs →
  (∀ j, j ∈ ids → D j) → Gone σ τ' (ids0 ++ ids) ∧ ∃ js, Handed c w D inl ys vs js ids
 | [], [], τ, ids0, ys, τ', ids, hg, h, _, _ => by
  simp only [handAll] at h
  cases h
  exact ⟨by simpa using hg, [], ⟨rfl, rfl, rfl, by simp⟩⟩
 | x :: r, v :: q, τ, ids0, ys, τ', ids, hg, h, hx, hD => by
  simp only [handAll] at h
  split at h
  ·cases h
  ·rename_i p hp
   split at h
   ·cases h
   ·rename_i p2 hp2
    cases h
    simp only [VRt] at hx
    obtain ⟨⟨τ2, hi⟩, hg1⟩ := handIn_back hg (y := p.1) (τ' := p.2.1) (ids := p.2.2) hp
    obtain ⟨h1, h2, h3⟩ := handIn_run hR hi hx.1 (D := D) (fun j hj => hD j (List.mem_append.2 (.inl hj)))
    obtain ⟨hg2, js, hh⟩ := handAll_run hR r q p.2.1 (ids0 ++ p.2.2) p2.1 p2.2.1 p2.2.2 hg1 hp2 hx.2 (fun j hj => hD j (List.mem_append.2 (.inr hj)))
    refine ⟨by rw [← List.append_assoc]; exact hg2, p.2.2.head? :: js, ⟨by simp [hh.len], by simp [hh.lenj], ?_, ?_⟩⟩
    ·rcases h3 with ⟨h3, _⟩ | ⟨j, _, h3, _⟩ <;> simp [h3, hh.ids]
    ·intro k y u hy hu
     cases k with
     | zero =>
      simp at hy hu
      subst hy hu
      refine ⟨h1, fun e n xs he => ?_⟩
      obtain ⟨j, hj, hin, hinfo⟩ := h2 e n xs he
      exact ⟨j, by simp [hj], hin, hinfo⟩
     | succ k =>
      simp at hy hu
      obtain ⟨k1, k2⟩ := hh.cell k y u hy hu
      exact ⟨k1, fun e n xs he => by obtain ⟨j, hj, rest⟩ := k2 e n xs he; exact ⟨j, by simpa using hj, rest⟩⟩
 | [], _ :: _, _, _, _, _, _, _, _, hx, _ => by simp [VRt] at hx
 | _ :: _, [], _, _, _, _, _, _, _, hx, _ => by simp [VRt] at hx
theorem plain_alloc (w : World) (cs : Array Value) (t : TypeId) : Plain (w.alloc (.cells cs t)) w.heap.size := ⟨cs, t, heap_alloc_new w _⟩
theorem cell_alloc_new (w : World) (cs : Array Value) (t : TypeId) (j : Nat) : (w.alloc (.cells cs t)).cell? ⟨w.heap.size, j, none⟩ = cs[j]? := by
 unfold World.cell?
 simp only [heap_alloc_new]
 simp
theorem newBox_run (hR : Rel G c σ w) {t : Nat} {cs : List AV} {vs : Array Value} {ty : TypeId} {e : Eff} (h : newBlk σ (some t) ⟨false, true, false, 0, cs⟩ (.ptr (.v t) none 0) = some e) (hv : VRs c w cs vs.toList) :
  ∃ c', Rel G c' e.σ (w.alloc (.cells vs ty)) ∧ Ext c w c' (w.alloc (.cells vs ty)) ∧ VR c' (w.alloc (.cells vs ty)) e.val (.pointer (some ⟨w.heap.size, 0, none⟩)) := by
 simp only [newBlk] at h
 split at h
 ·rename_i hh
  cases h
  have hi : ¬ c.kn (.v t) := fun hk => by rw [hR.kn, hh] at hk; cases hk
  let new : Option Nat → Option (Option (Nat × Nat × Nat)) := fun s => match s with | none => some (some (w.heap.size, 0, 0)) | some _ => none
  have hE : Ext c w (c.move (fun _ => False) (.v t) new) (w.alloc (.cells vs ty)) := Ext.move (Frame'.alloc c w _) hi (by
   intro sub b sh e hn
   cases sub with
   | none => simp only [new] at hn; cases hn; exact .inr (Nat.le_refl _)
   | some p => simp only [new] at hn; cases hn)
  have hm0 : (c.move (fun _ => False) (.v t) new).m (.v t, none) = some (some (w.heap.size, 0, 0)) := move_same _ _ _ _
  refine ⟨c.move (fun _ => False) (.v t) new, ?_, hE, ?_⟩
  ·refine Rel.move hR (Frame'.alloc c w _) (blk := ⟨false, true, false, 0, cs⟩) hi ?_ ?_ ?_ ?_ (get_put_same _ _ _) (fun _ _ h => h.elim) (fun j hj _ => get_put_ne _ _ hj) ?_ ?_
   ·intro sub b sh e hn
    cases sub with
    | none => simp only [new] at hn; cases hn; exact .inl ⟨Nat.le_refl _, by simp⟩
    | some p => simp only [new] at hn; cases hn
   ·intro s s' b sh e sh' e' h1 h2
    cases s <;> cases s' <;> simp only [new] at h1 h2 <;> first | rfl | (cases h1; done) | (cases h2; done)
   ·intro p hp; exact absurd rfl hp
   ·intro j; exact has_put _ _ _ _
   ·intro j sub b sh e _ hm
    exact Below.heap_alloc _ _ _ (hR.lt b ⟨_, _, _, hm⟩)
   ·refine .inr ⟨w.heap.size, 0, hm0, plain_alloc _ _ _, fun _ => hR.base, fun j x hx => ?_⟩
    obtain ⟨v, hv1, hv2⟩ := VRt_get hv.1 j x hx
    refine ⟨v, by rw [cell_alloc_new, Nat.zero_add, ← Array.getElem?_toList]; exact hv1, hv.2 v (List.mem_of_getElem? hv1), ?_⟩
    simp only [Bool.false_eq_true, if_false]
    exact hR.vr hE hv2
  ·rw [VR_ptr]
   refine ⟨.inr rfl, _, rfl, fun b sh e hm => ?_⟩
   rw [hm0] at hm
   cases hm
   rfl
 ·cases h
theorem evAlloc_run (hR : Rel G c σ w) {dst : Option Tmp} {elem : TypeId} {e : Eff} (h : evAlloc G σ dst elem = some e) :
  ∃ c' w' v, (Instr.alloc elem true (.tuple #[])).run G.P w = .ok v w' ∧ Rel G c' e.σ w' ∧ Ext c w c' w' ∧ VR c' w' e.val v := by
 unfold evAlloc at h
 split at h
 ·rename_i cs hz
  obtain ⟨i, z, hi, hzv, rfl, ho⟩ := zeroT_spec hz
  cases dst with
  | none => simp [newBlk] at h
  | some t =>
   obtain ⟨c', h1, h2, h3⟩ := newBox_run hR (ty := elem) (vs := z.cells) h ⟨VRt_toAV _, ho⟩
   refine ⟨c', _, _, ?_, h1, h2, h3⟩
   simp [Instr.alloc, zeroValue, typeInfo, hi, hzv, newVar, newRow]
 ·cases h
theorem evBox_run (hR : Rel G c σ w) {dst : Option Tmp} {elem : TypeId} {x : AV} {a : Value} {e : Eff} (h : evBox σ dst x = some e) (hx : VR c w x a) :
  ∃ c' w' v, (Instr.box elem a).run P w = .ok v w' ∧ Rel G c' e.σ w' ∧ Ext c w c' w' ∧ VR c' w' e.val v := by
 unfold evBox at h
 split at h
 ·rename_i hok
  cases dst with
  | none => simp [newBlk] at h
  | some t =>
   obtain ⟨c', h1, h2, h3⟩ := newBox_run hR (ty := elem) (vs := a.cells) h (cells_run hx hok)
   refine ⟨c', _, _, ?_, h1, h2, h3⟩
   simp [Instr.box, newVar, newRow]
 ·cases h
end
end Go.Ev
namespace Go.Ev
open Go Go.RowKit
section
variable {G : Cfg} {c c' : Cx} {σ σ' : Store} {w w' : World} {P : Program}
noncomputable def newM (c : Cx) (blk : Blk) (b sh : Nat) (src : Nat → Option Key) (Q : Nat → Prop) : Option Nat → Option (Option (Nat × Nat × Nat))
 | none => some (some (b, sh, blk.esz))
 | some p => by classical exact match blk.cells[p]? with
  | some (.nst _ _ _) => match src p with
   | some κ => if Q p then c.m κ else some none
   | none => none
  | _ => none
theorem newM_some {blk : Blk} {b sh p : Nat} {src : Nat → Option Key} {Q : Nat → Prop} {r : Option (Nat × Nat × Nat)} (h : newM c blk b sh src Q (some p) = some r) :
  ∃ e n xs κ, blk.cells[p]? = some (.nst e n xs) ∧ src p = some κ ∧ ((Q p ∧ c.m κ = some r) ∨ (¬ Q p ∧ r = none)) := by
 simp only [newM] at h
 split at h
 ·rename_i e n xs hx
  split at h
  ·rename_i κ hs
   split at h
   ·rename_i hq; exact ⟨e, n, xs, κ, hx, hs, .inl ⟨hq, h⟩⟩
   ·rename_i hq; cases h; exact ⟨e, n, xs, κ, hx, hs, .inr ⟨hq, rfl⟩⟩
  ·cases h
 ·cases h
theorem newM_nst {blk : Blk} {b sh p e n : Nat} {xs : List AV} {src : Nat → Option Key} {Q : Nat → Prop} {κ : Key} (hx : blk.cells[p]? = some (.nst e n xs)) (hs : src p = some κ) :
  (Q p → newM c blk b sh src Q (some p) = c.m κ) ∧ (¬ Q p → newM c blk b sh src Q (some p) = some none) := by
 simp only [newM, hx, hs]
 exact ⟨fun h => if_pos h, fun h => if_neg h⟩
theorem newArr (hR : Rel G c σ w) (hf : Frame' c w w') {D : Id → Prop} {i : Id} {blk : Blk} {b sh : Nat} (src : Nat → Option Key) (okx : Nat → Prop) (hi : ¬ c.kn i) (ha : blk.arr = true)
  (hb : (w.heap.size ≤ b ∧ b < w'.heap.size) ∨ ∃ j s sh' e', D j ∧ c.m (j, s) = some (some (b, sh', e')))
  (hsD : ∀ p κ, src p = some κ → D κ.1) (hsi : ∀ p p' κ, src p = some κ → src p' = some κ → p = p') (hsb : ∀ p κ sh' e', src p = some κ → c.m κ ≠ some (some (b, sh', e')))
  (hhas : ∀ j, σ'.has j = true ↔ σ.has j = true ∨ j = i) (hget : σ'.get? i = some blk) (hD : ∀ j, j ≠ i → D j → σ'.get? j = none) (hother : ∀ j, j ≠ i → ¬ D j → σ'.get? j = σ.get? j)
  (hheap : ∀ b', c.at_ b' → b' ≠ b → w'.heap[b']? = w.heap[b']?)
  (hokx : ∀ b', okx b' → b' < w.heap.size ∧ w'.heap[b']? = w.heap[b']? ∧ (c.S b' ∨ (c.base ≤ b' ∧ b' ≠ b ∧ (∀ p κ sh' e', src p = some κ → c.m κ ≠ some (some (b', sh', e'))) ∧ ∀ j sub sh' e', ¬ D j → c.m (j, sub) ≠ some (some (b', sh', e')))))
  (hp : Plain w' b) (hfr : blk.fr = true → c.base ≤ b)
  (hcell : ∀ (p : Nat) y, blk.cells[p]? = some y → ∃ v, w'.cell? ⟨b, sh + p, none⟩ = some v ∧ VC okx w y v ∧ ∀ e n xs, y = .nst e n xs → ∃ κ, src p = some κ ∧ NstInfo c w okx κ e n xs v) :
  ∃ c', Rel G c' σ' w' ∧ Ext c w c' w' ∧ c'.m (i, none) = some (some (b, sh, blk.esz)) ∧ c'.kn i := by
 classical
 let Q : Nat → Prop := fun p => ∃ e n xs v A k κ, blk.cells[p]? = some (.nst e n xs) ∧ src p = some κ ∧ w'.cell? ⟨b, sh + p, none⟩ = some v ∧ v = .slice A n k ∧
  ∃ b' sh', c.m κ = some (some (b', sh', e)) ∧ A = some ⟨b', sh', none⟩ ∧ Plain w b' ∧ c.base ≤ b' ∧ (∃ t z, w.shape? b' = some (t, z) ∧ sh' + k * e ≤ z) ∧ VCs okx w xs b' sh'
 have hnew : ∀ sub b' sh' e', newM c blk b sh src Q sub = some (some (b', sh', e')) → (sub = none ∧ b' = b) ∨ ∃ p κ, sub = some p ∧ src p = some κ ∧ c.m κ = some (some (b', sh', e')) := by
  intro sub b' sh' e' h
  cases sub with
  | none => simp only [newM] at h; cases h; exact .inl ⟨rfl, rfl⟩
  | some p =>
   obtain ⟨_, _, _, κ, _, hs, hk | hk⟩ := newM_some h
   ·exact .inr ⟨p, κ, rfl, hs, hk.2⟩
   ·cases hk.2
 have hbnew : ∀ sub b' sh' e', newM c blk b sh src Q sub = some (some (b', sh', e')) → (w.heap.size ≤ b' ∧ b' < w'.heap.size) ∨ ∃ j s sh' e', D j ∧ c.m (j, s) = some (some (b', sh', e')) := by
  intro sub b' sh' e' h
  rcases hnew sub b' sh' e' h with ⟨_, rfl⟩ | ⟨p, κ, _, hs, hk⟩
  ·exact hb
  ·exact .inr ⟨κ.1, κ.2, sh', e', hsD p κ hs, hk⟩
 have hE : Ext c w (c.move D i (newM c blk b sh src Q)) w' := Ext.move hf hi (by
  intro sub b' sh' e' h
  rcases hbnew sub b' sh' e' h with h | ⟨j, s, sh2, e2, _, h⟩
  ·exact .inr h.1
  ·exact .inl ⟨_, _, _, h⟩)
 have hm0 : (c.move D i (newM c blk b sh src Q)).m (i, none) = some (some (b, sh, blk.esz)) := move_same _ _ _ _
 refine ⟨c.move D i (newM c blk b sh src Q), ?_, hE, hm0, .inr rfl⟩
 have hok : ∀ b', okx b' → (c.move D i (newM c blk b sh src Q)).ok w' b' ∧ w'.heap[b']? = w.heap[b']? := by
  intro b' hb'
  obtain ⟨h1, h2, h3⟩ := hokx b' hb'
  refine ⟨?_, h2⟩
  rcases h3 with h3 | ⟨h3, h4, h5, h6⟩
  ·exact .inl h3
  ·refine .inr ⟨h3, Nat.lt_of_lt_of_le h1 hf.size, ?_⟩
   rintro ⟨⟨j, s⟩, sh', e', hm⟩
   by_cases hj : j = i
   ·rw [hj, move_same] at hm
    rcases hnew _ _ _ _ hm with ⟨_, k⟩ | ⟨p, κ, _, k1, k2⟩
    ·exact h4 k
    ·exact h5 p κ sh' e' k1 k2
   ·by_cases hDj : D j
    ·rw [move_D D i _ hj s hDj] at hm; cases hm
    ·rw [move_ne D i _ hj s hDj] at hm; exact h6 j s sh' e' hDj hm
 have hneb : ∀ j sub b' sh' e', ¬ D j → c.m (j, sub) = some (some (b', sh', e')) → b' ≠ b := by
  intro j sub b' sh' e' hDj hm he
  subst he
  rcases hb with hb | ⟨j2, s2, sh2, e2, hD2, h2⟩
  ·have := hR.lt b' ⟨_, _, _, hm⟩; omega
  ·have := hR.inj _ _ _ _ _ _ _ h2 hm
   cases this
   exact hDj hD2
 refine Rel.move hR hf (blk := blk) hi hbnew ?_ ?_ hhas hget hD hother (fun j sub b' sh' e' hDj hm => hheap b' ⟨_, _, _, hm⟩ (hneb j sub b' sh' e' hDj hm)) ?_
 ·intro s s' b' sh1 e1 sh2 e2 h1 h2
  rcases hnew s b' sh1 e1 h1 with ⟨k1, k2⟩ | ⟨p, κ, k1, k2, k3⟩ <;> rcases hnew s' b' sh2 e2 h2 with ⟨l1, l2⟩ | ⟨p', κ', l1, l2, l3⟩
  ·rw [k1, l1]
  ·subst k2; exact absurd l3 (hsb _ _ _ _ l2)
  ·subst l2; exact absurd k3 (hsb _ _ _ _ k2)
  ·have := hR.inj _ _ _ _ _ _ _ k3 l3
   subst this
   rw [k1, l1, hsi p p' κ k2 l2]
 ·intro p h
  cases hn : newM c blk b sh src Q (some p) with
  | none => exact absurd hn h
  | some r =>
   obtain ⟨e, n, xs, _, hx, _⟩ := newM_some hn
   exact ⟨ha, e, n, xs, hx⟩
 ·refine .inr ⟨b, sh, hm0, hp, hfr, fun p y hy => ?_⟩
  obtain ⟨v, hv, hc, hn⟩ := hcell p y hy
  refine ⟨v, hv, VC_one hc, ?_⟩
  rw [if_pos ha]
  refine ⟨VC_mono hok _ _ hc, fun e n xs he => ?_⟩
  subst he
  obtain ⟨κ, hs, A, k, hvk, hnk, hd⟩ := hn e n xs rfl
  obtain ⟨hq1, hq2⟩ := newM_nst (c := c) (blk := blk) (b := b) (sh := sh) (Q := Q) hy hs
  refine ⟨A, k, hvk, hnk, ?_⟩
  by_cases hq : Q p
  ·right
   obtain ⟨e', n', xs', v', A', k', κ', q1, q2, q3, q4, b', sh', q5, q6, q7, q8, ⟨t, z, q9, q10⟩, q11⟩ := hq
   rw [hy] at q1; cases q1
   rw [hs] at q2; cases q2
   rw [hv] at q3; cases q3
   rw [hvk] at q4; cases q4
   have hm := hq1 ⟨e, n, xs, v, A, k, κ, hy, hs, hv, hvk, b', sh', q5, q6, q7, q8, ⟨t, z, q9, q10⟩, q11⟩
   have hbb : b' ≠ b := fun hh => hsb p κ sh' e hs (hh ▸ q5)
   have hheq := hheap b' ⟨_, _, _, q5⟩ hbb
   refine ⟨b', sh', by rw [move_same, hm]; exact q5, q6, ?_, fun _ => q8, ⟨t, z, ?_, q10⟩, VCs_mono hok _ _ _ hheq q11⟩
   ·obtain ⟨cs, t', hpp⟩ := q7; exact ⟨cs, t', by rw [hheq]; exact hpp⟩
   ·rw [hf.shape b' (hR.lt b' ⟨_, _, _, q5⟩)]; exact q9
  ·left
   refine ⟨by rw [move_same, hq2 hq], ?_⟩
   rcases hd with hd | ⟨b', sh', d1, d2, d3, d4, d5, d6⟩
   ·exact hd
   ·exact absurd ⟨e, n, xs, v, A, k, κ, hy, hs, hv, hvk, b', sh', d1, d2, d3, d4, d5, d6⟩ hq
theorem filterMap_inj : ∀ (js : List (Option Id)), (js.filterMap id).Nodup → ∀ (p p' : Nat) (j : Id), js[p]? = some (some j) → js[p']? = some (some j) → p = p'
 | [], _, p, _, _, h, _ => by simp at h
 | x :: r, hn, p, p', j, h, h' => by
  have hr : (r.filterMap id).Nodup := by
   cases x with
   | none => simpa using hn
   | some y => simp at hn; exact hn.2
  have hmem : ∀ q, r[q]? = some (some j) → j ∈ r.filterMap id := fun q hq => List.mem_filterMap.2 ⟨some j, List.mem_of_getElem? hq, rfl⟩
  cases p with
  | zero =>
   simp at h
   subst h
   cases p' with
   | zero => rfl
   | succ p' =>
    simp at h'
    simp at hn
    exact absurd (List.mem_of_getElem? h') hn.1
  | succ p =>
   simp at h
   cases p' with
   | zero =>
    simp at h'
    subst h'
    simp at hn
    exact absurd (List.mem_of_getElem? h) hn.1
   | succ p' =>
    simp at h'
    rw [filterMap_inj r hr p p' j h h']
theorem newRow_run (hR : Rel G c σ w) {inl : Bool} {cs ys : List AV} {vs rest : List Value} {τ : Store} {ids : List Id} {t s : Nat} {ty : TypeId} {nest fr : Bool} (h : handAll inl σ cs = some (ys, τ, ids)) (hv : VRs c w cs vs) (ht : τ.has (.v t) = false) :
  ∃ c', Rel G c' (τ.put (.v t) ⟨true, fr, nest, s, ys⟩) (w.alloc (.cells (vs ++ rest).toArray ty)) ∧ Ext c w c' (w.alloc (.cells (vs ++ rest).toArray ty)) ∧ c'.m (.v t, none) = some (some (w.heap.size, 0, s)) ∧ c'.kn (.v t) := by
 obtain ⟨hg, js, hh⟩ := handAll_run hR (D := fun j => j ∈ ids) cs vs σ [] ys τ ids (Gone.nil σ) h hv.1 (fun _ h => h)
 simp only [List.nil_append] at hg
 have hi : ¬ c.kn (.v t) := fun hk => by rw [hR.kn, ← hg.has, ht] at hk; cases hk
 have hnt : (.v t) ∉ ids := fun hm => by
  obtain ⟨b, hb⟩ := hg.was _ hm
  exact hi ((hR.kn _).2 (has_of_get hb))
 let src : Nat → Option Key := fun p => match js[p]? with | some (some j) => some (j, none) | _ => none
 have hsrc : ∀ p κ, src p = some κ → ∃ j, κ = (j, none) ∧ js[p]? = some (some j) ∧ j ∈ ids := by
  intro p κ hs
  simp only [src] at hs
  split at hs
  ·rename_i j hj
   cases hs
   exact ⟨j, rfl, hj, by rw [← hh.ids]; exact List.mem_filterMap.2 ⟨some j, List.mem_of_getElem? hj, rfl⟩⟩
  ·cases hs
 have hlv : ys.length = vs.length := hh.len
 refine newArr hR (Frame'.alloc c w _) (D := fun j => j ∈ ids) (blk := ⟨true, fr, nest, s, ys⟩) (b := w.heap.size) (sh := 0) (fun p => if inl = true then src p else none) (okD c w (fun j => j ∈ ids) inl) hi rfl (.inl ⟨Nat.le_refl _, by simp⟩)
  ?_ ?_ ?_ ?_ (get_put_same _ _ _) ?_ ?_ ?_ ?_ (plain_alloc _ _ _) (fun _ => hR.base) ?_
 ·intro p κ hs
  split at hs
  ·obtain ⟨j, rfl, _, hj⟩ := hsrc p κ hs; exact hj
  ·cases hs
 ·intro p p' κ h1 h2
  split at h1
  ·rename_i hinl
   rw [if_pos hinl] at h2
   obtain ⟨j, rfl, k1, _⟩ := hsrc p κ h1
   obtain ⟨j', e, k2, _⟩ := hsrc p' _ h2
   cases e
   exact filterMap_inj js (by rw [hh.ids]; exact hg.nodup) p p' j k1 k2
  ·cases h1
 ·intro p κ sh' e' _ hm
  have := hR.lt _ ⟨_, _, _, hm⟩
  omega
 ·intro j; rw [has_put, hg.has]
 ·intro j hj hD; rw [get_put_ne _ _ hj]; exact hg.gone j hD
 ·intro j hj hD; rw [get_put_ne _ _ hj]; exact hg.other j hD
 ·intro b' hb' _; exact Below.heap_alloc _ _ _ (hR.lt b' hb')
 ·intro b' hb'
  rcases hb' with hb' | ⟨j, sub, sh', e', hj, hm, hbase, hsub⟩
  ·obtain ⟨h1, h2⟩ := hR.Sok b' hb'
   refine ⟨h1, Below.heap_alloc _ _ _ h1, ?_⟩
   rcases hb' with hs | ⟨h3, _, _⟩
   ·exact .inl hs
   ·exact .inr ⟨h3, by omega, fun p κ sh' e' _ hm => h2 ⟨_, _, _, hm⟩, fun j sub sh' e' _ hm => h2 ⟨_, _, _, hm⟩⟩
  ·have h1 := hR.lt b' ⟨_, _, _, hm⟩
   refine ⟨h1, Below.heap_alloc _ _ _ h1, .inr ⟨hbase, by omega, ?_, ?_⟩⟩
   ·intro p κ sh2 e2 hs hm2
    split at hs
    ·rename_i hinl
     obtain ⟨j', rfl, _, _⟩ := hsrc p κ hs
     have := hR.inj _ _ _ _ _ _ _ hm hm2
     cases this
     rw [hsub rfl] at hinl
     cases hinl
    ·cases hs
   ·intro j2 s2 sh2 e2 hD hm2
    have := hR.inj _ _ _ _ _ _ _ hm hm2
    cases this
    exact hD hj
 ·intro p y hy
  have hp : p < vs.length := by have := (List.getElem?_eq_some_iff.1 hy).1; simp only at this; omega
  have hv2 : vs[p]? = some (vs[p]'hp) := List.getElem?_eq_getElem hp
  obtain ⟨h1, h2⟩ := hh.cell p y _ hy hv2
  refine ⟨_, ?_, h1, fun e n xs he => ?_⟩
  ·rw [cell_alloc_new, Nat.zero_add, ← Array.getElem?_toList]
   simp only
   rw [List.getElem?_append_left hp]
   exact hv2
  ·obtain ⟨j, hj, hinl, hinfo⟩ := h2 e n xs he
   refine ⟨(j, none), ?_, hinfo⟩
   rw [if_pos hinl]
   simp only [src, hj]
end
end Go.Ev
namespace Go.Ev
open Go Go.RowKit
section
variable {G : Cfg} {c c' : Cx} {σ σ' : Store} {w w' : World} {P : Program}
theorem repl_get {α : Type} (l : List α) : ∀ (n j : Nat), j < n * l.length → (List.replicate n l).flatten[j]? = l[j % l.length]?
 | 0, j, h => by simp at h
 | n + 1, j, h => by
  rw [List.replicate_succ, List.flatten_cons]
  by_cases hj : j < l.length
  ·rw [List.getElem?_append_left hj, Nat.mod_eq_of_lt hj]
  ·rw [List.getElem?_append_right (by omega), repl_get l n (j - l.length) (by rw [Nat.succ_mul] at h; omega)]
   rw [← Nat.mod_eq_sub_mod (by omega)]
theorem repl_length {α : Type} (l : List α) (n : Nat) : (List.replicate n l).flatten.length = n * l.length := by
 induction n with
 | zero => simp
 | succ n ih => rw [List.replicate_succ, List.flatten_cons, List.length_append, ih, Nat.succ_mul]; omega
theorem madeCells_repl (z : Array Value) (n : Nat) : (madeCells z (n * z.size)).toList = (List.replicate n z.toList).flatten := by
 apply List.ext_getElem?
 intro j
 by_cases hj : j < n * z.size
 ·rw [repl_get z.toList n j (by simpa using hj)]
  have hz : 0 < z.size := by
   rcases Nat.eq_zero_or_pos z.size with h | h
   ·rw [h] at hj; simp at hj
   ·exact h
  have hm := Nat.mod_lt j hz
  simp [madeCells, hj, hm]
 ·rw [List.getElem?_eq_none (by simp [madeCells]; omega), List.getElem?_eq_none (by rw [repl_length]; simp; omega)]
theorem repl_run {z : Value} (ho : ∀ u ∈ z.cells.toList, u.oneCell' = true) (n : Nat) : VRs c w (repl n (z.cells.toList.map toAV)) (madeCells z.cells (n * z.cells.size)).toList := by
 rw [madeCells_repl]
 refine ⟨?_, ?_⟩
 ·have : repl n (z.cells.toList.map toAV) = ((List.replicate n z.cells.toList).flatten).map toAV := by
   unfold repl
   rw [List.map_flatten, List.map_replicate]
  rw [this]
  exact VRt_toAV _
 ·intro u hu
  rw [List.mem_flatten] at hu
  obtain ⟨l, hl, hu⟩ := hu
  rw [List.mem_replicate] at hl
  rw [hl.2] at hu
  exact ho u hu
theorem shape_alloc (w : World) (cs : Array Value) (t : TypeId) : (w.alloc (.cells cs t)).shape? w.heap.size = some (t, cs.size) := by
 unfold World.shape?
 simp only [heap_alloc_new]
theorem ownNew_run {t s n : Nat} {cs : Array Value} {ty : TypeId} (hm : c.m (.v t, none) = some (some (w.heap.size, 0, s))) (hk : c.kn (.v t)) (hz : n * s ≤ cs.size) :
  VR c (w.alloc (.cells cs ty)) (.own (.v t) none 0 n n) (.slice (some ⟨w.heap.size, 0, none⟩) n n) := by
 rw [VR_own]
 refine ⟨hk, _, _, rfl, Nat.le_refl _, Nat.le_refl _, (by simp), ?_, ?_⟩
 ·intro h; rw [hm] at h; cases h
 ·intro b sh e h
  rw [hm] at h
  cases h
  exact ⟨.inr rfl, _, _, shape_alloc w cs ty, by omega⟩
theorem putAt_length {α : List AV} {off : Nat} {xs : List AV} (h : off + xs.length ≤ α.length) : (putAt α off xs).length = α.length := by
 unfold putAt
 simp
 omega
theorem fillA_length {place : Nat → Option (Nat × Nat)} : ∀ (parts : List (Nat × AV)) (cs r : List AV), fillA place cs parts = some r → r.length = cs.length
 | [], cs, r, h => by simp only [fillA] at h; cases h; rfl
 | (i, x) :: ps, cs, r, h => by
  simp only [fillA] at h
  split at h
  ·cases h
  ·rename_i off size hpl
   split at h
   ·rename_i hb
    rw [fillA_length ps _ _ h, putAt_length (by omega)]
   ·cases h
theorem toAV_flat {v : Value} (h : v.oneCell' = true) : (toAV v).flat = true := by
 unfold toAV
 split
 ·rfl
 ·exact h
theorem handIn_flat {inl : Bool} {x : AV} (h : x.flat = true) : handIn inl σ x = some (nrm inl x, σ, []) := by
 cases x with
 | sc v => simp only [handIn]; rw [if_pos h]; rfl
 | sl e n xs => simp only [handIn]; rw [if_pos h]; rfl
 | emp => rfl
 | _ => simp [AV.flat] at h
theorem handAll_flat {inl : Bool} : ∀ {xs : List AV}, (∀ x, x ∈ xs → x.flat = true) → handAll inl σ xs = some (xs.map (nrm inl), σ, [])
 | [], _ => rfl
 | x :: r, h => by
  have hr : handAll inl σ r = some (r.map (nrm inl), σ, []) := handAll_flat fun y hy => h y (List.mem_cons_of_mem _ hy)
  simp only [handAll, handIn_flat (h x (by simp)), hr, List.nil_append, List.map_cons]
theorem repl_map (f : AV → AV) (n : Nat) (z : List AV) : (repl n z).map f = repl n (z.map f) := by
 unfold repl
 rw [List.map_flatten, List.map_replicate]
theorem evBuildSlice_run (hR : Rel G c σ w) {inl : Bool} {dst : Option Tmp} {ty : TypeId} {len : Nat} {parts : List (Nat × AV)} {parts' : Array (Nat × Value)} {e : Eff} (h : evBuildSlice G inl σ dst ty len parts = some e)
  (hp : VRp c w parts parts'.toList) : ∃ c' w' v, (Instr.buildSlice ty len parts').run G.P w = .ok v w' ∧ Rel G c' e.σ w' ∧ Ext c w c' w' ∧ VR c' w' e.val v := by
 unfold evBuildSlice at h
 split at h
 ·rename_i el hel
  split at h
  ·rename_i s z hs hz
   split at h
   ·rename_i hb
    split at h
    ·rename_i cs hfill
     split at h
     ·rename_i ys τ ids hh
      split at h
      ·rename_i t
       split at h
       ·rename_i hk
        cases h
        obtain ⟨i, zv, hi, hzv, rfl, ho⟩ := zeroT_spec hz
        obtain ⟨i', hi', rfl⟩ := szT_spec hs
        rw [hi] at hi'
        cases hi'
        have hzs : zv.cells.size = i.size := by simpa using hb.2
        obtain ⟨cells', hf, hv⟩ := fillA_run parts parts'.toList _ _ _ hfill (repl_run ho len) hp
        obtain ⟨c', h1, h2, h3, h4⟩ := newRow_run hR (rest := []) (s := i.size) (ty := el) (fr := true) (nest := inl && !ids.isEmpty) hh hv hk
        have hsz : cells'.size = len * i.size := by
         rw [← Array.length_toList, ← VRt_length hv.1, fillA_length _ _ _ hfill]
         unfold repl
         rw [repl_length, hb.2]
        refine ⟨c', _, .slice (some ⟨w.heap.size, 0, none⟩) len len, ?_, h1, h2, ?_⟩
        ·have hu := slT_spec hel
         rw [hzs] at hf
         have hsm : ¬ len * i.size > 2 ^ 24 := by omega
         by_cases h0 : len * i.size = 0
         ·rw [h0] at hf
          have hf' : Instr.fill (fun j => some (j * i.size, i.size)) #[] parts'.toList = some cells' := by simpa [madeCells, Array.range_zero'] using hf
          simp [Instr.buildSlice, run_underlying hu, sizeOf, typeInfo, zeroValue, hi, hzv, h0, newRow, hf', Array.range_zero']
         ·have := run_buildSlice (P := G.P) w ty el len parts' cells' i zv hu hi hzv hsm h0 hf
          simpa using this
        ·have := ownNew_run (c := c') (w := w) (t := t) (s := i.size) (n := len) (cs := cells') (ty := el) h3 h4 (by omega)
         simpa using this
       ·cases h
      ·cases h
     ·cases h
    ·cases h
   ·cases h
  ·cases h
 ·cases h
theorem evMakeSlice_run (hR : Rel G c σ w) {inl : Bool} {dst : Option Tmp} {ty : TypeId} {l m : AV} {a b : Value} {e : Eff} (h : evMakeSlice G inl σ dst ty l m = some e)
  (ha : VR c w l a) (hb : VR c w m b) : ∃ c' w' v, (Instr.makeSlice ty a b).run G.P w = .ok v w' ∧ Rel G c' e.σ w' ∧ Ext c w c' w' ∧ VR c' w' e.val v := by
 unfold evMakeSlice at h
 split at h
 ·rename_i el kl n km m hel
  split at h
  ·rename_i s z by_ hs hz hby
   split at h
   ·rename_i hc
    obtain ⟨rfl, h0, hbytes, h63, hzs⟩ := hc
    obtain ⟨i, zv, hi, hzv, rfl, ho⟩ := zeroT_spec hz
    obtain ⟨i', hi', rfl⟩ := szT_spec hs
    rw [hi] at hi'; cases hi'
    obtain ⟨i', hi', rfl⟩ := byT_spec hby
    rw [hi] at hi'; cases hi'
    rw [VR_sc] at ha hb
    subst ha hb
    unfold newBlk at h
    split at h
    ·rename_i t
     split at h
     ·rename_i hk
      cases h
      have hzs' : zv.cells.size = i.size := by simpa using hzs
      obtain ⟨c', h1, h2, h3, h4⟩ := newRow_run hR (rest := []) (s := i.size) (ty := el) (fr := true) (nest := false) (inl := inl) (cs := repl n.toNat (zv.cells.toList.map toAV)) (ys := repl n.toNat ((zv.cells.toList.map toAV).map (nrm inl))) (τ := σ) (ids := []) (t := t) (by rw [← repl_map]; exact handAll_flat (by
       intro x hx
       unfold repl at hx
       rw [List.mem_flatten] at hx
       obtain ⟨l, hl, hx⟩ := hx
       rw [List.mem_replicate] at hl
       rw [hl.2] at hx
       obtain ⟨v, hv, rfl⟩ := List.mem_map.1 hx
       exact toAV_flat (ho v hv))) (repl_run ho n.toNat) hk
      have hu := slT_spec hel
      have hr := run_make (P := G.P) w ty el i zv hu hi hzv kl km n n h0 (Int.le_refl _) (by
       rw [Int.mul_comm]
       omega) h63
      refine ⟨c', _, _, hr, ?_, ?_, ?_⟩
      ·rw [hzs'] at h1; simpa using h1
      ·rw [hzs'] at h2; simpa using h2
      ·exact ownNew_run h3 h4 (by rw [size_madeCells]; exact Nat.le_refl _)
     ·cases h
    ·cases h
   ·cases h
  ·cases h
 ·cases h
end
end Go.Ev
namespace Go.Ev
open Go Go.RowKit
section
variable {G : Cfg} {c c' : Cx} {σ σ' : Store} {w w' : World} {P : Program}
theorem setW_far {g : Nat} : ∀ (vs : List Value) (o : Nat) {w : World} (k : Nat), k ≠ g → (w.setCells g o vs).heap[k]? = w.heap[k]?
 | [], _, _, _, _ => rfl
 | v :: r, o, w, k, hk => by
  rw [World.setCells, setW_far r (o + 1) k hk]
  exact Below.heap_setCell w ⟨g, o, none⟩ v k hk
theorem setW_same (g : Nat) : ∀ (vs : List Value) (o : Nat) (w : World), (w.setCells g o vs).os = w.os ∧ (w.setCells g o vs).tape = w.tape ∧ (w.setCells g o vs).output = w.output ∧ (w.setCells g o vs).heap.size = w.heap.size
 | [], _, _ => ⟨rfl, rfl, rfl, rfl⟩
 | v :: r, o, w => by
  obtain ⟨h1, h2, h3, h4⟩ := setW_same g r (o + 1) (w.setCell ⟨g, o, none⟩ v)
  rw [World.setCells]
  exact ⟨h1, h2, h3, by rw [h4]; simp [World.setCell]⟩
theorem setW_row {g : Nat} {t : TypeId} : ∀ (vs : List Value) (o : Nat) (w : World) (cur : Array Value), w.heap[g]? = some (.cells cur t (0, 0)) →
  ∃ cur', (w.setCells g o vs).heap[g]? = some (.cells cur' t (0, 0)) ∧ cur'.size = cur.size
 | [], o, w, cur, h => ⟨cur, h, rfl⟩
 | v :: r, o, w, cur, h => by
  have h2 : (w.setCell ⟨g, o, none⟩ v).heap[g]? = some (.cells (cur.setIfInBounds o v) t (0, 0)) := by simp [World.setCell, Array.getElem?_modify, h]
  obtain ⟨cur', h3, h4⟩ := setW_row r (o + 1) _ _ h2
  exact ⟨cur', h3, by rw [h4]; simp⟩
theorem Plain.set {b : Nat} (h : Plain w b) (g o : Nat) (vs : List Value) : Plain (w.setCells g o vs) b := by
 obtain ⟨cs, t, h⟩ := h
 by_cases e : b = g
 ·subst e
  obtain ⟨cur', h1, _⟩ := setW_row vs o w cs h
  exact ⟨cur', t, h1⟩
 ·exact ⟨cs, t, by rw [setW_far vs o b e]; exact h⟩
theorem Frame'.set {b : Nat} (hp : Plain w b) (hb : c.at_ b) (o : Nat) (vs : List Value) : Frame' c w (w.setCells b o vs) where
 size := by rw [(setW_same b vs o w).2.2.2]; exact Nat.le_refl _
 keep := fun b' _ hn => setW_far vs o b' (fun e => hn (e ▸ hb))
 shape := fun b' _ => by
  by_cases e : b' = b
  ·subst e
   obtain ⟨cs, t, h⟩ := hp
   obtain ⟨cur', h1, h2⟩ := setW_row vs o w cs h
   unfold World.shape?
   simp only [h, h1, h2]
  ·unfold World.shape?
   rw [setW_far vs o b' e]
 os := (setW_same b vs o w).1
 tape := (setW_same b vs o w).2.1
 output := (setW_same b vs o w).2.2.1
theorem frozen_plain {b : Nat} (hp : Plain w b) (j : Nat) : w.frozen? ⟨b, j, none⟩ = false := by
 obtain ⟨cs, t, h⟩ := hp
 simp [World.frozen?, h]
noncomputable def Cx.trim (c : Cx) (D : Key → Prop) : Cx where
 m := fun k => by classical exact if D k then none else c.m k
 kn := c.kn
 S := c.S
 base := c.base
theorem trim_D {D : Key → Prop} {k : Key} (h : D k) : (c.trim D).m k = none := by simp [Cx.trim, h]
theorem trim_ne {D : Key → Prop} {k : Key} (h : ¬ D k) : (c.trim D).m k = c.m k := by simp [Cx.trim, h]
theorem trim_some {D : Key → Prop} {k : Key} {x : Option (Nat × Nat × Nat)} (h : (c.trim D).m k = some x) : ¬ D k ∧ c.m k = some x := by
 by_cases hD : D k
 ·rw [trim_D hD] at h; cases h
 ·exact ⟨hD, by rw [trim_ne hD] at h; exact h⟩
theorem Ext.trim (hf : Frame' c w w') (D : Key → Prop) : Ext c w (c.trim D) w' where
 base := rfl
 S := rfl
 size := hf.size
 kn := fun _ h => h
 m := fun id sub _ => by
  by_cases hD : D (id, sub)
  ·exact .inl (trim_D hD)
  ·exact .inr (trim_ne hD)
 new := fun b ⟨k, sh, e, hk⟩ => .inl ⟨k, sh, e, (trim_some hk).2⟩
 keep := hf.keep
 shape := hf.shape
 os := hf.os
 tape := hf.tape
 output := hf.output
theorem Rel.trim (hR : Rel G c σ w) (hf : Frame' c w w') {D : Key → Prop} (hhas : ∀ j, σ'.has j = σ.has j)
  (hdom : ∀ id sub, ¬ D (id, sub) → c.m (id, sub) ≠ none → ∃ blk, σ'.get? id = some blk ∧ ∀ p, sub = some p → blk.arr = true ∧ ∃ e n xs, blk.cells[p]? = some (.nst e n xs))
  (hblk : ∀ id blk, σ'.get? id = some blk → BlkOk (c.trim D) w' id blk) : Rel G (c.trim D) σ' w' := by
 have hE : Ext c w (c.trim D) w' := Ext.trim hf D
 refine ⟨?_, ?_, ?_, ?_, hblk, ?_, ?_, ?_, know_ext hR hE⟩
 ·intro k k' b sh e sh' e' h1 h2
  exact hR.inj _ _ _ _ _ _ _ (trim_some h1).2 (trim_some h2).2
 ·rintro b ⟨k, sh, e, h⟩
  exact Nat.lt_of_lt_of_le (hR.lt b ⟨k, sh, e, (trim_some h).2⟩) hf.size
 ·intro j
  rw [hhas]
  exact hR.kn j
 ·intro id sub h
  by_cases hD : D (id, sub)
  ·exact absurd (trim_D hD) h
  ·rw [trim_ne hD] at h
   exact hdom id sub hD h
 ·intro b hb
  obtain ⟨h1, h2⟩ := hR.sS b hb
  exact ⟨h1, fun ⟨k, sh, e, h⟩ => h2 ⟨k, sh, e, (trim_some h).2⟩⟩
 ·exact Nat.le_trans hR.base hf.size
 ·intro g cs hg
  obtain ⟨h1, h2⟩ := hR.glob g cs hg
  exact ⟨h1, VCs_mono (hE.stable hR.Sok) _ _ _ (hE.stable hR.Sok g (.inl h1)).2 h2⟩
theorem CellOk_ext (h : Ext c w c' w') (hs : c.Sok w) (hlt : ∀ b, c.at_ b → b < w.heap.size) {id : Id} {blk blk' : Blk} (harr : blk'.arr = blk.arr) (hfr : blk'.fr = true → blk.fr = true) {p : Nat} {x : AV} {v : Value}
  (hm : ∀ e n xs, x = .nst e n xs → c'.m (id, some p) = c.m (id, some p)) (hh : ∀ b sh e, c.m (id, some p) = some (some (b, sh, e)) → w'.heap[b]? = w.heap[b]?) (hc : CellOk c w id blk p x v) : CellOk c' w' id blk' p x v := by
 unfold CellOk at hc ⊢
 refine ⟨hc.1, ?_⟩
 rw [harr]
 split
 ·rename_i ha
  rw [if_pos ha] at hc
  refine ⟨VC_mono (h.stable hs) _ _ hc.2.1, fun e n xs he => ?_⟩
  obtain ⟨A, k, hv, hn, hk⟩ := hc.2.2 e n xs he
  have hm := hm e n xs he
  refine ⟨A, k, hv, hn, ?_⟩
  rcases hk with ⟨k1, k2, k3⟩ | ⟨b', sh', k1, k2, k3, k4, ⟨t, z, k5, k6⟩, k7⟩
  ·exact .inl ⟨by rw [hm]; exact k1, k2, k3⟩
  ·have hhb' := hh b' sh' _ k1
   refine .inr ⟨b', sh', by rw [hm]; exact k1, k2, ?_, fun hf => by rw [h.base]; exact k4 (hfr hf), ⟨t, z, ?_, k6⟩, ?_⟩
   ·obtain ⟨cs, t', hp⟩ := k3; exact ⟨cs, t', by rw [hhb']; exact hp⟩
   ·rw [h.shape b' (hlt b' ⟨_, _, _, k1⟩)]; exact k5
   ·exact VCs_mono (h.stable hs) _ _ _ hhb' k7
 ·rename_i ha
  rw [if_neg ha] at hc
  exact VR_ext h hs hlt _ _ hc.2
theorem putAt_get {cs ys : List AV} {off : Nat} (h : off + ys.length ≤ cs.length) (j : Nat) : (putAt cs off ys)[j]? = if j < off then cs[j]? else if j < off + ys.length then ys[j - off]? else cs[j]? := by
 unfold putAt
 have hl : (cs.take off).length = off := by simp; omega
 split
 ·rename_i h1
  rw [List.append_assoc, List.getElem?_append_left (by omega), List.getElem?_take]
  simp [h1]
 ·rename_i h1
  split
  ·rename_i h2
   rw [List.getElem?_append_left (by simp; omega), List.getElem?_append_right (by omega), hl]
  ·rename_i h2
   rw [List.getElem?_append_right (by simp; omega), List.getElem?_drop]
   congr 1
   simp
   omega
theorem writeRow_run (hR : Rel G c σ w) {ids : List Id} {τ : Store} (hg : Gone σ τ ids) {id : Id} {sub : Option Nat} {cs : List AV} {e off : Nat} (hrow : rowOf σ id sub = some (cs, e)) (hid : id ∉ ids)
  {ys : List AV} {vs : List Value} (hset : setRow τ id sub (putAt cs off ys) = some σ') (hle : off + ys.length ≤ cs.length) (hlen : ys.length = vs.length)
  (hv : ∀ (p : Nat) y v, ys[p]? = some y → vs[p]? = some v → VC (okD c w (fun j => j ∈ ids) false) w y v ∧ isNst y = false) :
  ∃ c' w', Rel G c' σ' w' ∧ Ext c w c' w' ∧ ((vs = [] ∧ w' = w) ∨ ∃ b sh, c.m (id, sub) = some (some (b, sh, e)) ∧ w' = w.setCells b (sh + off) vs ∧ Plain w b ∧ ∀ j, j < vs.length → (w.cell? ⟨b, sh + off + j, none⟩).isSome = true) := by
 let D : Key → Prop := fun k => k.1 ∈ ids ∨ (k.1 = id ∧ sub = none ∧ ∃ q, k.2 = some q ∧ off ≤ q ∧ q < off + ys.length)
 have hDsub : ¬ D (id, sub) := by
  rintro (h | ⟨_, h1, q, h2, _⟩)
  ·exact hid h
  ·simp only at h2; rw [h1] at h2; cases h2
 obtain ⟨w', hw', hcase⟩ : ∃ w', Frame' c w w' ∧ ((vs = [] ∧ w' = w) ∨ ∃ b sh, c.m (id, sub) = some (some (b, sh, e)) ∧ w' = w.setCells b (sh + off) vs ∧ Plain w b ∧ ∀ j, j < vs.length → (w.cell? ⟨b, sh + off + j, none⟩).isSome = true) := by
  rcases hR.row hrow with ⟨_, h2⟩ | ⟨b, sh, h1, h2, h3⟩
  ·subst h2
   have : ys = [] := List.eq_nil_of_length_eq_zero (by have := hle; simp only [List.length_nil] at this; omega)
   subst this
   have : vs = [] := List.eq_nil_of_length_eq_zero (by simpa using hlen.symm)
   exact ⟨w, Frame'.refl c w, .inl ⟨this, rfl⟩⟩
  ·refine ⟨w.setCells b (sh + off) vs, Frame'.set h2 ⟨_, _, _, h1⟩ _ _, .inr ⟨b, sh, h1, rfl, h2, fun j hj => ?_⟩⟩
   have hj2 : off + j < cs.length := by omega
   obtain ⟨v, hv, _⟩ := VCs_get h3 (off + j) _ (List.getElem?_eq_getElem hj2)
   rw [Nat.add_assoc, hv]
   rfl
 have hE : Ext c w (c.trim D) w' := Ext.trim hw' D
 have hheap : ∀ j s b sh e', (j, s) ≠ (id, sub) → c.m (j, s) = some (some (b, sh, e')) → w'.heap[b]? = w.heap[b]? := by
  intro j s b sh e' hne hm
  rcases hcase with ⟨_, rfl⟩ | ⟨b2, sh2, h1, rfl, _⟩
  ·rfl
  ·refine setW_far _ _ _ fun e2 => ?_
   subst e2
   exact hne (hR.inj _ _ _ _ _ _ _ hm h1)
 have hτ : τ.get? id = σ.get? id := hg.other id hid
 have hokD : ∀ b, okD c w (fun j => j ∈ ids) false b → (c.trim D).ok w' b ∧ w'.heap[b]? = w.heap[b]? := by
  intro b hb
  rcases hb with hb | ⟨j, s, sh, e', hj, hm, hbase, _⟩
  ·exact hE.stable hR.Sok b hb
  ·refine ⟨.inr ⟨hbase, Nat.lt_of_lt_of_le (hR.lt b ⟨_, _, _, hm⟩) hw'.size, ?_⟩, hheap j s b sh e' (fun h => hid (by cases h; exact hj)) hm⟩
   rintro ⟨k, sh2, e2, hk⟩
   obtain ⟨hk1, hk2⟩ := trim_some hk
   have := hR.inj _ _ _ _ _ _ _ hk2 hm
   subst this
   exact hk1 (.inl hj)
 obtain ⟨blk, hblk, harr, hwhich⟩ : ∃ blk, σ.get? id = some blk ∧ blk.arr = true ∧ ((sub = none ∧ cs = blk.cells ∧ e = blk.esz) ∨ ∃ p n, sub = some p ∧ blk.cells[p]? = some (.nst e n cs)) := by
  cases sub with
  | none =>
   simp only [rowOf] at hrow
   split at hrow
   ·rename_i blk hb
    split at hrow
    ·cases hrow; exact ⟨blk, hb, by assumption, .inl ⟨rfl, rfl, rfl⟩⟩
    ·cases hrow
   ·cases hrow
  | some p =>
   simp only [rowOf] at hrow
   split at hrow
   ·rename_i blk hb
    split at hrow
    ·rename_i e' n xs hx
     split at hrow
     ·cases hrow; exact ⟨blk, hb, by assumption, .inr ⟨p, n, rfl, hx⟩⟩
     ·cases hrow
    ·cases hrow
   ·cases hrow
 have hcells : ∀ b sh, c.m (id, sub) = some (some (b, sh, e)) → (∀ j, (j < off ∨ off + vs.length ≤ j) → w'.cell? ⟨b, sh + j, none⟩ = w.cell? ⟨b, sh + j, none⟩) ∧ ∀ j v, vs[j]? = some v → w'.cell? ⟨b, sh + (off + j), none⟩ = some v := by
  intro b sh hm
  rcases hcase with ⟨rfl, rfl⟩ | ⟨b2, sh2, h1, rfl, _, h2⟩
  ·exact ⟨fun _ _ => rfl, fun j v h => by simp at h⟩
  ·rw [h1] at hm
   cases hm
   refine ⟨fun j hj => World.cell?_setCells_out _ _ _ _ _ (fun _ _ => by simp only; omega), fun j v hj => ?_⟩
   obtain ⟨hj1, hj2⟩ := List.getElem?_eq_some_iff.1 hj
   rw [← Nat.add_assoc, World.cell?_setCells_in _ vs _ w h2 j hj1, hj2]
 obtain ⟨blk', hσ', hblk', hfr', hesz', hwhich'⟩ : ∃ blk', σ' = τ.put id blk' ∧ blk'.arr = true ∧ blk'.fr = blk.fr ∧ blk'.esz = blk.esz ∧
   ((sub = none ∧ blk'.cells = putAt cs off ys) ∨ ∃ p n, sub = some p ∧ blk.cells[p]? = some (.nst e n cs) ∧ blk'.cells = blk.cells.set p (.nst e n (putAt cs off ys))) := by
  unfold setRow at hset
  rw [hτ, hblk] at hset
  rcases hwhich with ⟨rfl, _, _⟩ | ⟨p, n, rfl, hx⟩
  ·simp only at hset
   cases hset
   exact ⟨_, rfl, harr, rfl, rfl, .inl ⟨rfl, rfl⟩⟩
  ·simp only [hx] at hset
   cases hset
   exact ⟨_, rfl, harr, rfl, rfl, .inr ⟨p, n, rfl, hx, rfl⟩⟩
 subst hσ'
 have hgone : ∀ j, j ≠ id → j ∈ ids → (τ.put id blk').get? j = none := fun j hj hm => by rw [get_put_ne _ _ hj]; exact hg.gone j hm
 have hother : ∀ j, j ≠ id → j ∉ ids → (τ.put id blk').get? j = σ.get? j := fun j hj hm => by rw [get_put_ne _ _ hj]; exact hg.other j hm
 have hmain : BlkOk (c.trim D) w' id blk' ∧ ∀ p, ¬ D (id, some p) → c.m (id, some p) ≠ none → ∃ e n xs, blk'.cells[p]? = some (.nst e n xs) := by
  rcases hwhich' with ⟨hsub, hc'⟩ | ⟨p, n, hsub, hxp, hc'⟩
  ·obtain ⟨hcs, he⟩ : cs = blk.cells ∧ e = blk.esz := by
    rcases hwhich with ⟨_, h1, h2⟩ | ⟨p, n, h1, _⟩
    ·exact ⟨h1, h2⟩
    ·rw [hsub] at h1; cases h1
   have hD : ∀ j, ¬ D (id, some j) → j < off ∨ off + ys.length ≤ j := by
    intro j h
    by_cases h1 : j < off
    ·exact .inl h1
    ·by_cases h2 : off + ys.length ≤ j
     ·exact .inr h2
     ·exact absurd (.inr ⟨rfl, hsub, j, rfl, by omega, by omega⟩) h
   have hold : ∀ j, (j < off ∨ off + ys.length ≤ j) → blk'.cells[j]? = blk.cells[j]? := by
    intro j hj
    rw [hc', putAt_get hle, ← hcs]
    rcases hj with hj | hj
    ·rw [if_pos hj]
    ·rw [if_neg (by omega), if_neg (by omega)]
   refine ⟨?_, fun p hp hm => ?_⟩
   ·rcases hR.blk id blk hblk with ⟨h1, h2, _⟩ | ⟨b, sh, h1, h2, h3, h4⟩
    ·refine .inl ⟨by rw [trim_ne (by rw [← hsub]; exact hDsub)]; exact h1, ?_, hblk'⟩
     rw [hc', hcs, h2]
     have : ys = [] := List.eq_nil_of_length_eq_zero (by have := hle; rw [hcs, h2] at this; simp only [List.length_nil] at this; omega)
     rw [this]
     simp [putAt]
    ·have hcl := hcells b sh (by rw [hsub, he]; exact h1)
     refine .inr ⟨b, sh, by rw [trim_ne (by rw [← hsub]; exact hDsub), hesz']; exact h1, ?_, fun hf => h3 (hfr' ▸ hf), fun j x hx => ?_⟩
     ·rcases hcase with ⟨_, rfl⟩ | ⟨b2, sh2, _, rfl, _⟩
      ·exact h2
      ·exact h2.set _ _ _
     ·by_cases hj : j < off ∨ off + ys.length ≤ j
      ·rw [hold j hj] at hx
       obtain ⟨v, hv1, hv2⟩ := h4 j x hx
       refine ⟨v, by rw [hcl.1 j (by omega)]; exact hv1, ?_⟩
       refine CellOk_ext hE hR.Sok hR.lt (hblk'.trans harr.symm) (fun h => hfr' ▸ h) (fun _ _ _ _ => trim_ne ?_) (fun b' sh' e' hm => hheap id (some j) b' sh' e' (by rw [hsub]; simp) hm) hv2
       rintro (h | ⟨_, _, q, h, _⟩)
       ·exact hid h
       ·simp only [Option.some.injEq] at h; omega
      ·rw [hc', putAt_get hle, if_neg (by omega), if_pos (by omega)] at hx
       have hjl : j - off < vs.length := by omega
       obtain ⟨v, hvj⟩ : ∃ v, vs[j - off]? = some v := ⟨_, List.getElem?_eq_getElem hjl⟩
       obtain ⟨k1, k2⟩ := hv _ _ _ hx hvj
       have hcj := hcl.2 _ _ hvj
       rw [show off + (j - off) = j by omega] at hcj
       refine ⟨_, hcj, VC_one k1, ?_⟩
       rw [if_pos hblk']
       refine ⟨VC_mono hokD _ _ k1, fun e n xs he => ?_⟩
       subst he
       simp [isNst] at k2
   ·obtain ⟨bb, h1, h2⟩ := hR.dom id (some p) hm
    rw [hblk] at h1
    cases h1
    rw [hold p (hD p hp)]
    exact (h2 p rfl).2
  ·have hold : ∀ j, j ≠ p → blk'.cells[j]? = blk.cells[j]? := fun j hj => by rw [hc', List.getElem?_set_ne (Ne.symm hj)]
   have hnew : blk'.cells[p]? = some (.nst e n (putAt cs off ys)) := by
    rw [hc', List.getElem?_set_self (List.getElem?_eq_some_iff.1 hxp).1]
   have hnD : ∀ s, ¬ D (id, s) := by
    rintro s (h | ⟨_, h, _⟩)
    ·exact hid h
    ·rw [hsub] at h; cases h
   refine ⟨?_, fun q hq hm => ?_⟩
   ·rcases hR.blk id blk hblk with ⟨_, h2, _⟩ | ⟨b, sh, h1, h2, h3, h4⟩
    ·rw [h2] at hxp; simp at hxp
    ·have hbb := hheap id none b sh _ (by rw [hsub]; simp) h1
     refine .inr ⟨b, sh, by rw [trim_ne (hnD _), hesz']; exact h1, ?_, fun hf => h3 (hfr' ▸ hf), fun j x hx => ?_⟩
     ·obtain ⟨cs', t, h⟩ := h2; exact ⟨cs', t, by rw [hbb]; exact h⟩
     ·by_cases hj : j = p
      ·subst hj
       rw [hnew] at hx
       cases hx
       obtain ⟨v, hv1, hv2⟩ := h4 j _ hxp
       refine ⟨v, by rw [cell_of_heap hbb]; exact hv1, ?_⟩
       unfold CellOk at hv2 ⊢
       rw [if_pos harr] at hv2
       rw [if_pos hblk']
       obtain ⟨k0, k1, k2⟩ := hv2
       refine ⟨k0, by simpa only [VC] using k1, fun e2 n2 xs2 he2 => ?_⟩
       cases he2
       obtain ⟨A, k, hvA, hnk, hk⟩ := k2 _ _ _ rfl
       refine ⟨A, k, hvA, hnk, ?_⟩
       rcases hk with ⟨m1, m2, m3⟩ | ⟨b', sh', m1, m2, m3, m4, ⟨t, z, m5, m6⟩, m7⟩
       ·refine .inl ⟨by rw [trim_ne (hnD _)]; exact m1, ?_, m3⟩
        have : ys = [] := List.eq_nil_of_length_eq_zero (by have := hle; rw [m2] at this; simp only [List.length_nil] at this; omega)
        rw [m2, this]
        simp [putAt]
       ·have hcl := hcells b' sh' (by rw [hsub]; exact m1)
        refine .inr ⟨b', sh', by rw [trim_ne (hnD _)]; exact m1, m2, ?_, fun hf => m4 (hfr' ▸ hf), ⟨t, z, by rw [hw'.shape b' (hR.lt b' ⟨_, _, _, m1⟩)]; exact m5, m6⟩, VCs_mk fun q y hy => ?_⟩
        ·rcases hcase with ⟨_, rfl⟩ | ⟨b2, sh2, _, rfl, _⟩
         ·exact m3
         ·exact m3.set _ _ _
        ·rw [putAt_get hle] at hy
         split at hy
         ·rename_i hq
          obtain ⟨v2, hv2, hv3⟩ := VCs_get m7 q y hy
          exact ⟨v2, by rw [hcl.1 q (.inl hq)]; exact hv2, VC_mono (hE.stable hR.Sok) _ _ hv3⟩
         ·rename_i hq
          split at hy
          ·rename_i hq2
           have hjl : q - off < vs.length := by omega
           obtain ⟨v, hvj⟩ : ∃ v, vs[q - off]? = some v := ⟨_, List.getElem?_eq_getElem hjl⟩
           obtain ⟨k1, _⟩ := hv _ _ _ hy hvj
           have hcj := hcl.2 _ _ hvj
           rw [show off + (q - off) = q by omega] at hcj
           exact ⟨_, hcj, VC_mono hokD _ _ k1⟩
          ·rename_i hq2
           obtain ⟨v2, hv2, hv3⟩ := VCs_get m7 q y hy
           exact ⟨v2, by rw [hcl.1 q (.inr (by omega))]; exact hv2, VC_mono (hE.stable hR.Sok) _ _ hv3⟩
      ·rw [hold j hj] at hx
       obtain ⟨v, hv1, hv2⟩ := h4 j x hx
       refine ⟨v, by rw [cell_of_heap hbb]; exact hv1, ?_⟩
       exact CellOk_ext hE hR.Sok hR.lt (hblk'.trans harr.symm) (fun h => hfr' ▸ h) (fun _ _ _ _ => trim_ne (hnD _)) (fun b' sh' e' hm => hheap id (some j) b' sh' e' (by rw [hsub]; simp; exact hj) hm) hv2
   ·by_cases hqp : q = p
    ·subst hqp; exact ⟨_, _, _, hnew⟩
    ·obtain ⟨bb, h1, h2⟩ := hR.dom id (some q) hm
     rw [hblk] at h1
     cases h1
     rw [hold q hqp]
     exact (h2 q rfl).2
 refine ⟨c.trim D, w', Rel.trim hR hw' ?_ ?_ ?_, hE, hcase⟩
 ·intro j
  have h1 : (τ.put id blk').has j = true ↔ σ.has j = true := by
   rw [has_put, hg.has]
   refine ⟨fun h => h.elim (fun h => h) (fun h => ?_), .inl⟩
   subst h
   exact has_of_get hblk
  cases h2 : (τ.put id blk').has j <;> cases h3 : σ.has j <;> simp_all
 ·intro j s hD hm
  by_cases hj : j = id
  ·subst hj
   refine ⟨blk', get_put_same _ _ _, fun p hp => ⟨hblk', ?_⟩⟩
   subst hp
   exact hmain.2 p hD hm
  ·obtain ⟨b, hb, hp⟩ := hR.dom j s hm
   exact ⟨b, by rw [hother j hj (fun h => hD (.inl h))]; exact hb, hp⟩
 ·intro j b hb
  by_cases hj : j = id
  ·subst hj
   rw [get_put_same] at hb
   cases hb
   exact hmain.1
  ·by_cases hm : j ∈ ids
   ·rw [hgone j hj hm] at hb; cases hb
   ·rw [hother j hj hm] at hb
    have hnD : ∀ s, ¬ D (j, s) := by
     rintro s (h | ⟨h, _⟩)
     ·exact hm h
     ·exact hj h
    exact BlkOk_ext hE hR.Sok hR.lt (fun s => trim_ne (hnD s)) (fun s b sh e hk => hheap j s b sh e (fun h => hj (by cases h; rfl)) hk) (hR.blk j b hb)
end
end Go.Ev
namespace Go.Ev
open Go Go.RowKit
section
variable {G : Cfg} {c c' : Cx} {σ σ' : Store} {w w' : World} {P : Program}
theorem writeBox_run (hR : Rel G c σ w) {id : Id} {blk : Blk} (hb : σ.get? id = some blk) (ha : blk.arr = false) {xs : List AV} {vs : List Value} {off : Nat} (hle : off + xs.length ≤ blk.cells.length) (hx : VRs c w xs vs) :
  ∃ c' b sh, Rel G c' (σ.put id { blk with cells := putAt blk.cells off xs }) (w.setCells b (sh + off) vs) ∧ Ext c w c' (w.setCells b (sh + off) vs) ∧ c.m (id, none) = some (some (b, sh, blk.esz)) ∧ Plain w b ∧
   ∀ j, j < vs.length → (w.cell? ⟨b, sh + off + j, none⟩).isSome = true := by
 have hlen := VRt_length hx.1
 rcases hR.blk id blk hb with ⟨_, _, h⟩ | ⟨b, sh, h1, h2, h3, h4⟩
 ·rw [ha] at h; cases h
 ·have hF : Frame' c w (w.setCells b (sh + off) vs) := Frame'.set h2 ⟨_, _, _, h1⟩ _ _
  have hE : Ext c w (c.trim fun _ => False) (w.setCells b (sh + off) vs) := Ext.trim hF _
  have hsome : ∀ j, j < vs.length → (w.cell? ⟨b, sh + off + j, none⟩).isSome = true := by
   intro j hj
   obtain ⟨v, hv, _⟩ := h4 (off + j) _ (List.getElem?_eq_getElem (by omega))
   rw [Nat.add_assoc, hv]; rfl
  have hheap : ∀ j s b' sh' e', (j, s) ≠ (id, none) → c.m (j, s) = some (some (b', sh', e')) → (w.setCells b (sh + off) vs).heap[b']? = w.heap[b']? := by
   intro j s b' sh' e' hne hm
   refine setW_far _ _ _ fun e2 => ?_
   subst e2
   exact hne (hR.inj _ _ _ _ _ _ _ hm h1)
  refine ⟨c.trim fun _ => False, b, sh, Rel.trim hR hF ?_ ?_ ?_, hE, h1, h2, hsome⟩
  ·intro j
   have k1 : (σ.put id { blk with cells := putAt blk.cells off xs }).has j = true ↔ σ.has j = true := by
    rw [has_put]
    refine ⟨fun h => h.elim (fun h => h) (fun h => ?_), .inl⟩
    subst h
    exact has_of_get hb
   cases k2 : (σ.put id { blk with cells := putAt blk.cells off xs }).has j <;> cases k3 : σ.has j <;> simp_all
  ·intro j s _ hm
   obtain ⟨bb, k1, k2⟩ := hR.dom j s hm
   by_cases hj : j = id
   ·subst hj
    rw [hb] at k1
    cases k1
    exact ⟨_, get_put_same _ _ _, fun p hp => by have := (k2 p hp).1; rw [ha] at this; cases this⟩
   ·exact ⟨bb, by rw [get_put_ne _ _ hj]; exact k1, k2⟩
  ·intro j bb hbb
   by_cases hj : j = id
   ·subst hj
    rw [get_put_same] at hbb
    cases hbb
    refine .inr ⟨b, sh, by rw [trim_ne (D := fun _ => False) (fun h => h)]; exact h1, h2.set _ _ _, h3, fun j x hxj => ?_⟩
    simp only [putAt_get hle] at hxj
    by_cases hin : off ≤ j ∧ j < off + xs.length
    ·rw [if_neg (by omega), if_pos hin.2] at hxj
     obtain ⟨v, hv1, hv2⟩ := VRt_get hx.1 _ _ hxj
     obtain ⟨hj1, hj2⟩ := List.getElem?_eq_some_iff.1 hv1
     have hcell := World.cell?_setCells_in b vs (sh + off) w hsome (j - off) hj1
     rw [hj2, show sh + off + (j - off) = sh + j by omega] at hcell
     refine ⟨v, hcell, hx.2 v (List.mem_of_getElem? hv1), ?_⟩
     simp only [ha, Bool.false_eq_true, if_false]
     exact hR.vr hE hv2
    ·have hxj' : blk.cells[j]? = some x := by
      split at hxj
      ·exact hxj
      ·rw [if_neg (by omega)] at hxj; exact hxj
     obtain ⟨v, hv1, hv2⟩ := h4 j x hxj'
     refine ⟨v, ?_, ?_⟩
     ·rw [World.cell?_setCells_out _ _ _ _ _ (fun _ _ => by simp only; omega)]; exact hv1
     ·refine CellOk_ext (blk := blk) hE hR.Sok hR.lt rfl (fun h => h) (fun _ _ _ _ => trim_ne (D := fun _ => False) (fun h => h)) (fun b' sh' e' hm => hheap _ _ b' sh' e' (by simp) hm) hv2
   ·rw [get_put_ne _ _ hj] at hbb
    exact BlkOk_ext hE hR.Sok hR.lt (fun s => trim_ne (D := fun _ => False) (fun h => h)) (fun s b sh e hk => hheap j s b sh e (fun h => hj (by cases h; rfl)) hk) (hR.blk j bb hbb)
theorem frz_rel (hR : Rel G c σ w) {id : Id} {blk : Blk} (hb : σ.get? id = some blk) (ha : blk.arr = true) (hfr : blk.fr = true) :
  Rel G (c.trim fun k => k.1 = id ∧ k.2 ≠ none) (σ.put id { blk with cells := blk.cells.map frz, nest := false }) w := by
 have hE : Ext c w (c.trim fun k => k.1 = id ∧ k.2 ≠ none) w := Ext.trim (Frame'.refl c w) _
 have hok : ∀ b, c.ok w b → (c.trim fun k => k.1 = id ∧ k.2 ≠ none).ok w b := fun b h => (hR.stab hE b h).1
 have hid : (c.trim fun k => k.1 = id ∧ k.2 ≠ none).m (id, none) = c.m (id, none) := trim_ne (fun h => h.2 rfl)
 refine Rel.trim hR (Frame'.refl c w) (fun j => ?_) (fun j s hD hm => ?_) fun j bb hbb => ?_
 ·have k1 : (σ.put id { blk with cells := blk.cells.map frz, nest := false }).has j = true ↔ σ.has j = true := by
   rw [has_put]
   refine ⟨fun h => h.elim (fun h => h) (fun h => ?_), .inl⟩
   subst h
   exact has_of_get hb
  cases k2 : (σ.put id { blk with cells := blk.cells.map frz, nest := false }).has j <;> cases k3 : σ.has j <;> simp_all
 ·obtain ⟨bb, k1, k2⟩ := hR.dom j s hm
  by_cases hj : j = id
  ·subst hj
   refine ⟨_, get_put_same _ _ _, fun p hp => ?_⟩
   subst hp
   exact absurd ⟨rfl, by simp⟩ hD
  ·exact ⟨bb, by rw [get_put_ne _ _ hj]; exact k1, k2⟩
 ·by_cases hj : j = id
  ·subst hj
   rw [get_put_same] at hbb
   cases hbb
   rcases hR.blk j blk hb with ⟨h1, h2, h3⟩ | ⟨b, sh, h1, h2, h3, h4⟩
   ·exact .inl ⟨by rw [hid]; exact h1, by show blk.cells.map frz = []; rw [h2]; rfl, h3⟩
   ·refine .inr ⟨b, sh, by rw [hid]; exact h1, h2, h3, fun q x hx => ?_⟩
    simp only [List.getElem?_map] at hx
    obtain ⟨x0, hx0, rfl⟩ := Option.map_eq_some_iff.1 hx
    obtain ⟨v, hv, hc⟩ := h4 q x0 hx0
    unfold CellOk at hc
    rw [if_pos ha] at hc
    refine ⟨v, hv, hc.1, ?_⟩
    show if blk.arr = true then _ else _
    rw [if_pos ha]
    cases x0 with
    | nst e n xs =>
     obtain ⟨A, k, rfl, hn, hk⟩ := hc.2.2 _ _ _ rfl
     refine ⟨?_, fun e n xs h => (by cases h)⟩
     simp only [frz, VC]
     rcases hk with ⟨_, rfl, rfl⟩ | ⟨b', sh', k1, rfl, _, k4, _, k6⟩
     ·exact ⟨A, 0, rfl, hn, NN.of fun _ => by omega, .inl rfl⟩
     ·refine ⟨_, k, rfl, hn, NN.of (by simp), .inr ⟨b', sh', rfl, .inr ⟨k4 hfr, hR.lt b' ⟨_, _, _, k1⟩, ?_⟩, VCs_ok hok k6⟩⟩
      rintro ⟨k2, s2, e2, hk2⟩
      obtain ⟨g1, g2⟩ := trim_some hk2
      have := hR.inj _ _ _ _ _ _ _ g2 k1
      exact g1 (by rw [this]; exact ⟨rfl, by simp⟩)
    | sc _ => exact ⟨VC_ok hok hc.2.1, fun _ _ _ h => (by cases h)⟩
    | sl _ _ _ => exact ⟨VC_ok hok hc.2.1, fun _ _ _ h => (by cases h)⟩
    | emp => exact ⟨VC_ok hok hc.2.1, fun _ _ _ h => (by cases h)⟩
    | own _ _ _ _ _ => exact ⟨VC_ok hok hc.2.1, fun _ _ _ h => (by cases h)⟩
    | ptr _ _ _ => exact ⟨VC_ok hok hc.2.1, fun _ _ _ h => (by cases h)⟩
    | iptr _ => exact ⟨VC_ok hok hc.2.1, fun _ _ _ h => (by cases h)⟩
    | agg _ => exact ⟨VC_ok hok hc.2.1, fun _ _ _ h => (by cases h)⟩
    | tup _ => exact ⟨VC_ok hok hc.2.1, fun _ _ _ h => (by cases h)⟩
    | clo _ _ => exact ⟨VC_ok hok hc.2.1, fun _ _ _ h => (by cases h)⟩
    | junk => exact ⟨VC_ok hok hc.2.1, fun _ _ _ h => (by cases h)⟩
  ·rw [get_put_ne _ _ hj] at hbb
   exact BlkOk_ext hE hR.Sok hR.lt (fun s => trim_ne (fun h => hj h.1)) (fun s b sh e hk => rfl) (hR.blk j bb hbb)
theorem put_put (σ : Store) (i : Id) (a b : Blk) : (σ.put i a).put i b = σ.put i b := by
 induction σ with
 | nil => simp [Store.put]
 | cons p r ih =>
  obtain ⟨j, x⟩ := p
  by_cases h : j = i
  ·subst h; simp [Store.put]
  ·simp [Store.put, h, ih]
theorem Gone.put {τ : Store} {ids : List Id} (h : Gone σ τ ids) {id : Id} (hid : id ∉ ids) (a : Blk) : Gone (σ.put id a) (τ.put id a) ids := by
 refine ⟨fun j => ?_, fun j hj => ?_, fun j hj => ?_, fun j hj => ?_, h.nodup⟩
 ·have k1 := has_put σ id j a
  have k2 := has_put τ id j a
  rw [h.has j] at k2
  cases k3 : (σ.put id a).has j <;> cases k4 : (τ.put id a).has j <;> simp_all
 ·rw [get_put_ne _ _ (fun e : j = id => hid (by rwa [e] at hj))]
  exact h.gone j hj
 ·by_cases e : j = id
  ·subst e; rw [get_put_same, get_put_same]
  ·rw [get_put_ne _ _ e, get_put_ne _ _ e]; exact h.other j hj
 ·rw [get_put_ne _ _ (fun e : j = id => hid (by rwa [e] at hj))]
  exact h.was j hj
theorem run_storeAt {t : TypeId} {i : TypeInfo} {b o : Nat} {v : Value} (hi : P.info? t = some i) (hz : v.cells.size = i.size) (ho : ∀ u ∈ v.cells.toList, u.oneCell' = true) (hp : Plain w b)
  (hc : ∀ j, j < v.cells.toList.length → (w.cell? ⟨b, o + j, none⟩).isSome = true) : (Instr.storeAt t (.pointer (some ⟨b, o, none⟩)) v).run P w = .ok () (w.setCells b o v.cells.toList) := by
 have := run_storeCells_cells (P := P) b o v.cells.toList 0 w (by simpa using hc) (fun j _ => frozen_plain hp _) ho
 simp only [Nat.add_zero] at this
 simp [Instr.storeAt, Instr.sureAddr, storeVar, sizeOf, typeInfo, hi, hz, this]
theorem run_storeAt_none {t : TypeId} {i : TypeInfo} {a : Addr} {v : Value} (hi : P.info? t = some i) (hz : v.cells.size = i.size) (hv : v.cells.toList = []) :
  (Instr.storeAt t (.pointer (some a)) v).run P w = .ok () w := by
 simp [Instr.storeAt, Instr.sureAddr, storeVar, sizeOf, typeInfo, hi, hz, hv, storeCells]
theorem storeA_run (hR : Rel G c σ w) {t : TypeId} {x y : AV} {a v : Value} {e : Eff} (h : storeA G σ t x y = some e) (hx : VR c w x a) (hy : VR c w y v) :
  ∃ c' w', (Instr.storeAt t a v).run G.P w = .ok () w' ∧ Rel G c' e.σ w' ∧ Ext c w c' w' ∧ e.val = undefA := by
 unfold storeA at h
 obtain ⟨n, hn, h⟩ := Option.bind_eq_some_iff.1 h
 obtain ⟨i, hi, rfl⟩ := szT_spec hn
 unfold storeAt at h
 split at h
 ·cases h
 ·rename_i hok
  have hv := cells_run hy (by simpa using hok)
  have hvl := VRt_length hv.1
  split at h
  ·rename_i id off _
   obtain ⟨hkn, a', rfl, ha⟩ := VR_ptr.1 hx
   split at h
   ·cases h
   ·rename_i blk hb
    split at h
    ·rename_i harr
     unfold storeArr at h
     split at h
     ·cases h
     ·rename_i p hp
      obtain ⟨ys, τ, ids⟩ := p
      split at h
      ·rename_i hc
       obtain ⟨hc1, hc2, hc3⟩ := hc
       simp only at hc1 hc3 h
       have hnid : id ∉ ids := fun hm => by rw [List.contains_iff_mem.2 hm] at hc3; cases hc3
       obtain ⟨hg, js, hh⟩ := handAll_run hR (D := fun j => j ∈ ids) y.cells v.cells.toList σ [] ys τ ids (Gone.nil σ) hp hv.1 (fun _ h => h)
       simp only [List.nil_append] at hg
       by_cases hnf : blk.nest = true ∧ ids ≠ []
       ·rw [if_pos hnf] at h
        by_cases hfr : blk.fr = true
        ·rw [if_pos hfr] at h
         cases h
         have hR1 := frz_rel hR hb harr hfr
         have hE1 : Ext c w (c.trim fun k => k.1 = id ∧ k.2 ≠ none) w := Ext.trim (Frame'.refl c w) _
         have hg1 := hg.put hnid { blk with cells := blk.cells.map frz, nest := false }
         have hset : setRow (τ.put id { blk with cells := blk.cells.map frz, nest := false }) id none (putAt (blk.cells.map frz) off ys) = some (τ.put id { blk with cells := putAt (blk.cells.map frz) off ys, nest := false }) := by
          unfold setRow
          rw [get_put_same]
          simp only [put_put]
         obtain ⟨c', w', h1, h2, h3⟩ := writeRow_run hR1 hg1 (id := id) (sub := none) (cs := blk.cells.map frz) (e := blk.esz) (off := off) (by simp [rowOf, get_put_same, harr]) hnid hset (by rw [List.length_map]; omega) hh.len (fun q z u hz hu => by
          obtain ⟨k1, k2⟩ := hh.cell q z u hz hu
          refine ⟨VC_ok (fun b hb => ?_) k1, ?_⟩
          ·rcases hb with hb | ⟨j, s, sh, e, hj, hm, hbase, hs⟩
           ·exact .inl (hR.stab hE1 b hb).1
           ·exact .inr ⟨j, s, sh, e, hj, by rw [trim_ne (D := fun k => k.1 = id ∧ k.2 ≠ none) (fun h => hnid (by have h1 : j = id := h.1; rwa [h1] at hj))]; exact hm, hbase, hs⟩
          ·cases z <;> first | rfl | skip
           obtain ⟨_, _, k3, _⟩ := k2 _ _ _ rfl
           cases k3)
         have hsz : v.cells.size = i.size := by rw [← Array.length_toList, ← hh.len]; exact hc1
         refine ⟨c', w', ?_, h1, hE1.trans h2, rfl⟩
         rcases h3 with ⟨h3, rfl⟩ | ⟨b, sh, h3, rfl, h4, h5⟩
         ·exact run_storeAt_none hi hsz h3
         ·rw [trim_ne (D := fun k => k.1 = id ∧ k.2 ≠ none) (fun h => h.2 rfl)] at h3
          obtain rfl := ha b sh _ h3
          exact run_storeAt hi hsz hv.2 h4 h5
        ·rw [if_neg hfr] at h; cases h
       rw [if_neg hnf] at h
       cases h
       have hset : setRow τ id none (putAt blk.cells off ys) = some (τ.put id { blk with cells := putAt blk.cells off ys }) := by
        unfold setRow
        rw [hg.other id hnid, hb]
       obtain ⟨c', w', h1, h2, h3⟩ := writeRow_run hR hg (id := id) (sub := none) (cs := blk.cells) (e := blk.esz) (off := off) (by simp [rowOf, hb, harr]) hnid hset (by omega) hh.len (fun q z u hz hu => by
        obtain ⟨k1, k2⟩ := hh.cell q z u hz hu
        refine ⟨k1, ?_⟩
        cases z <;> first | rfl | skip
        obtain ⟨_, _, k3, _⟩ := k2 _ _ _ rfl
        cases k3)
       have hsz : v.cells.size = i.size := by rw [← Array.length_toList, ← hh.len]; exact hc1
       refine ⟨c', w', ?_, h1, h2, rfl⟩
       rcases h3 with ⟨h3, rfl⟩ | ⟨b, sh, h3, rfl, h4, h5⟩
       ·exact run_storeAt_none hi hsz h3
       ·obtain rfl := ha b sh _ h3
        exact run_storeAt hi hsz hv.2 h4 h5
      ·cases h
    ·rename_i harr
     unfold storeBox at h
     split at h
     ·rename_i hc
      cases h
      obtain ⟨c', b, sh, h1, h2, h3, h4, h5⟩ := writeBox_run hR hb (xs := y.cells) (off := off) (by simpa using harr) (by rw [hc.1]; exact hc.2) hv
      refine ⟨c', _, ?_, h1, h2, rfl⟩
      obtain rfl := ha b sh _ h3
      exact run_storeAt hi (by rw [← Array.length_toList, ← hvl]; exact hc.1) hv.2 h4 h5
     ·cases h
  ·rename_i id p off _
   obtain ⟨hkn, a', rfl, ha⟩ := VR_ptr.1 hx
   unfold storeRow at h
   split at h
   ·cases h
   ·rename_i q hq
    obtain ⟨cs, es⟩ := q
    split at h
    ·rename_i hc
     obtain ⟨hc1, hc2, hc3⟩ := hc
     obtain ⟨σ1, hs, he⟩ := Option.map_eq_some_iff.1 h
     cases he
     simp only at hc2 hs
     have hfl : ∀ z, z ∈ y.cells → z.flat = true := fun z hz => List.all_eq_true.1 hc3 z hz
     obtain ⟨c', w', h1, h2, h3⟩ := writeRow_run hR (Gone.nil σ) hq (by simp) hs (by omega) hvl (fun q z u hz hu => by
      obtain ⟨u', hu', hzu⟩ := VRt_get hv.1 q z hz
      rw [hu] at hu'
      cases hu'
      have hf := hfl z (List.mem_of_getElem? hz)
      refine ⟨VC_ok (fun b hb => .inl hb) (VR_flat hzu hf), ?_⟩
      cases z <;> first | rfl | (simp [AV.flat] at hf))
     have hsz : v.cells.size = i.size := by rw [← Array.length_toList, ← hvl]; exact hc1
     refine ⟨c', w', ?_, h1, h2, rfl⟩
     rcases h3 with ⟨h3, rfl⟩ | ⟨b, sh, h3, rfl, h4, h5⟩
     ·exact run_storeAt_none hi hsz h3
     ·obtain rfl := ha b sh _ h3
      exact run_storeAt hi hsz hv.2 h4 h5
    ·cases h
  ·cases h
end
end Go.Ev
namespace Go.Ev
open Go Go.RowKit
section
variable {G : Cfg} {c c' : Cx} {σ σ' : Store} {w w' : World} {P : Program}
def Reads (w : World) (v : Value) (size n : Nat) (vs : List Value) : Prop :=
 vs.length = n * size ∧ ∃ A k, v = .slice A n k ∧ (vs = [] ∨ ∃ a, A = some a ∧ ∀ j u, vs[j]? = some u → w.cell? (a.add j) = some u)
theorem run_firsts {v : Value} {size n : Nat} {vs : List Value} (h : Reads w v size n vs) : (Builtin.firstCells size n v).run P w = .ok vs.toArray w := by
 obtain ⟨hl, A, k, rfl, h⟩ := h
 cases A with
 | none =>
  rcases h with rfl | ⟨a, h, _⟩
  ·exact run_firstCells_none (P := P) w size n n k
  ·cases h
 | some a =>
  rcases h with rfl | ⟨a', h, h2⟩
  ·exact run_firstCells_some (P := P) w size n a n k [] (by simpa using hl) (by simp)
  ·cases h
   exact run_firstCells_some (P := P) w size n a n k vs hl h2
theorem run_append_in {t tx ty e : TypeId} {i : TypeInfo} {u : TypeDesc} (ht : P.underlying t = some (.slice e)) (hi : P.info? e = some i) (hx : P.underlying tx = some u) (hu : ∀ k, u ≠ .int k)
  {A : Option Addr} {sLen sCap m : Nat} {x : Value} {news : List Value} (hr : Reads w x i.size m news) (hroom : sLen + m ≤ sCap)
  (hst : (A = none ∧ w' = w) ∨ ∃ a, A = some a ∧ (storeCells (a.add (sLen * i.size)) news).run P w = .ok () w') :
  (Builtin.append_ #[t, tx] ty #[.slice A sLen sCap, x]).run P w = .ok (.slice A (sLen + m) sCap) w' := by
 have hf := run_firsts (P := P) hr
 obtain ⟨_, A', k, rfl, _⟩ := hr
 rcases hst with ⟨rfl, rfl⟩ | ⟨a, rfl, hst⟩
 ·simp [Builtin.append_, run_underlying ht, run_underlying hx, sizeOf, typeInfo, hi, Builtin.lenOf, hroom, hf]
 ·simp [Builtin.append_, run_underlying ht, run_underlying hx, sizeOf, typeInfo, hi, Builtin.lenOf, hroom, hf, hst]
theorem run_append_out {t tx ty e : TypeId} {i : TypeInfo} {z : Value} {u : TypeDesc} (ht : P.underlying t = some (.slice e)) (hi : P.info? e = some i) (hz : i.zero = some z) (hx : P.underlying tx = some u) (hu : ∀ k, u ≠ .int k)
  {A : Option Addr} {sLen sCap m : Nat} {x : Value} {olds news : List Value} (hs : Reads w (.slice A sLen sCap) i.size sLen olds) (hr : Reads w x i.size m news)
  (hg : sCap < sLen + m) (h63 : sLen + m ≤ 9223372036854775807) (hb : (sLen + m) * i.bytes ≤ 140737488355328) :
  (Builtin.append_ #[t, tx] ty #[.slice A sLen sCap, x]).run P w = .ok (.slice (some ⟨w.heap.size, 0, none⟩) (sLen + m) (grownCap w (sLen + m) sCap e))
    (w.drew.alloc (.cells (olds ++ news ++ (Builtin.zeroCells z.cells (grownCap w (sLen + m) sCap e - (sLen + m))).toList).toArray e)) := by
 have hs' : Reads w.drew (.slice A sLen sCap) i.size sLen olds := hs
 have hr' : Reads w.drew x i.size m news := hr
 have hf := run_firsts (P := P) hr'
 have hfo := run_firsts (P := P) hs'
 obtain ⟨_, A', k, rfl, _⟩ := hr
 have hn : ¬ (sLen + m ≤ sCap) := by omega
 have h63' : ¬ (9223372036854775807 < ((sLen : Int) + (m : Int))) := by omega
 have hfit := growslice_fits hg hb
 have h48' : ¬ (281474976710656 < Builtin.nextslicecap (sLen + m) sCap * i.bytes) := by omega
 simp [Builtin.append_, run_underlying ht, run_underlying hx, sizeOf, typeInfo, zeroValue, hi, hz, Builtin.lenOf, hn, h63', h48', Question.forced, hf, hfo, newRow, grownCap]
 congr 2
 apply Array.ext'
 simp
theorem rowCells (hR : Rel G c σ w) {id : Id} {blk : Blk} (hb : σ.get? id = some blk) (ha : blk.arr = true) {b sh e' : Nat} (hm : c.m (id, none) = some (some (b, sh, e'))) :
  e' = blk.esz ∧ Plain w b ∧ (blk.fr = true → c.base ≤ b) ∧ ∀ (p : Nat) y, blk.cells[p]? = some y → ∃ v, w.cell? ⟨b, sh + p, none⟩ = some v ∧ VC (c.ok w) w y v ∧ ∀ e n zs, y = .nst e n zs → blk.fr = true → NstInfo c w (c.ok w) (id, some p) e n zs v := by
 rcases hR.blk id blk hb with ⟨h1, _⟩ | ⟨b', sh', h1, h2, h3, h4⟩
 ·rw [hm] at h1; cases h1
 ·rw [hm] at h1
  cases h1
  refine ⟨rfl, h2, h3, fun p y hy => ?_⟩
  obtain ⟨v, hv, hc⟩ := h4 p y hy
  unfold CellOk at hc
  rw [if_pos ha] at hc
  refine ⟨v, hv, hc.2.1, fun e n zs he hfr => ?_⟩
  obtain ⟨A, k, k1, k2, k3⟩ := hc.2.2 e n zs he
  refine ⟨A, k, k1, k2, ?_⟩
  rcases k3 with ⟨_, k4, k5⟩ | ⟨b', sh', m1, m2, m3, m4, m5, m6⟩
  ·exact .inl ⟨k4, k5⟩
  ·exact .inr ⟨b', sh', m1, m2, m3, m4 hfr, m5, m6⟩
theorem any_nst {xs : List AV} {p e n : Nat} {zs : List AV} (h : xs[p]? = some (.nst e n zs)) : xs.any isNst = true :=
 List.any_eq_true.2 ⟨_, List.mem_of_getElem? h, rfl⟩
theorem appendSrc_run (hR : Rel G c σ w) {e k : Nat} {x : AV} {new : List AV} {rd : List Id} {σ1 : Store} {xv : Value} (he : elems σ e x = some (k, new, rd)) (hs : appendSrc σ new x = some σ1) (hx : VR c w x xv) :
  ∃ (dx : List Id) (vs : List Value) (nsrc : Nat → Option Key), Gone σ σ1 dx ∧ (∀ j, j ∈ dx → j ∈ rd) ∧ new.length = vs.length ∧ Reads w xv e k vs ∧
   (∀ (p : Nat) y v, new[p]? = some y → vs[p]? = some v → VC (c.ok w) w y v ∧ ∀ e n zs, y = .nst e n zs → ∃ κ, nsrc p = some κ ∧ NstInfo c w (c.ok w) κ e n zs v) ∧
   (∀ (p : Nat) (κ : Key), nsrc p = some κ → ∃ j q, κ = (j, some q) ∧ j ∈ dx) ∧ (∀ (p p' : Nat) (κ : Key), nsrc p = some κ → nsrc p' = some κ → p = p') := by
 obtain ⟨hl, A, kk, rfl, hk, hcells⟩ := elems_run hR he hx
 obtain ⟨vs, hvl, hvr, hvc, hva⟩ : ∃ vs : List Value, vs.length = new.length ∧ (vs = [] ∨ ∃ a, A = some a ∧ ∀ j u, vs[j]? = some u → w.cell? (a.add j) = some u) ∧
   (∀ (p : Nat) y v, new[p]? = some y → vs[p]? = some v → VC (c.ok w) w y v) ∧ (new = [] ∨ ∃ b off, A = some ⟨b, off, none⟩ ∧ ∀ (j : Nat) u, vs[j]? = some u → w.cell? ⟨b, off + j, none⟩ = some u) := by
  rcases hcells with rfl | ⟨b, off, hA, hv⟩
  ·exact ⟨[], rfl, .inl rfl, fun p y v h => by simp at h, .inl rfl⟩
  ·obtain ⟨vs, h1, h2, h3⟩ := VCs_vals hv
   refine ⟨vs, h1, .inr ⟨_, hA, fun j u hu => ?_⟩, h3, .inr ⟨b, off, hA, h2⟩⟩
   have : (⟨b, off, none⟩ : Addr).add j = ⟨b, off + j, none⟩ := by unfold Addr.add; split <;> simp_all
   rw [this]
   exact h2 j u hu
 have hreads : Reads w (.slice A k kk) e k vs := ⟨by rw [hvl, hl], A, kk, rfl, hvr⟩
 unfold appendSrc at hs
 split at hs
 ·rename_i hany
  split at hs
  ·rename_i idx off n cap
   split at hs
   ·rename_i blk hb
    split at hs
    ·rename_i hfr
     cases hs
     refine ⟨[idx], vs, fun p => some (idx, some (off + p)), by simpa using (Gone.nil σ).del hb, ?_, hvl.symm, hreads, ?_, ?_, ?_⟩
     ·intro j hj
      obtain rfl := List.mem_singleton.1 hj
      simp only [elems] at he
      split at he
      ·split at he
       ·obtain ⟨ys, _, hq⟩ := Option.map_eq_some_iff.1 he
        cases hq
        simp
       ·cases he
      ·cases he
     ·intro p y v hy hv
      refine ⟨hvc p y v hy hv, fun e2 n2 zs hz => ⟨_, rfl, ?_⟩⟩
      subst hz
      simp only [elems] at he
      split at he
      ·rename_i cs e' hrow
       split at he
       ·rename_i hee
        subst hee
        obtain ⟨ys, hys, hq⟩ := Option.map_eq_some_iff.1 he
        cases hq
        obtain ⟨hle, hye⟩ := takeAt_some hys
        simp only [rowOf, hb] at hrow
        split at hrow
        ·rename_i ha
         cases hrow
         have hcell : blk.cells[off + p]? = some (.nst e2 n2 zs) := by
          rw [hye, List.getElem?_take] at hy
          split at hy
          ·rw [List.getElem?_drop] at hy; exact hy
          ·cases hy
         obtain ⟨_, A', k', hA', _, _, _, _, hm⟩ := VR_own.1 hx
         cases hA'
         rcases hR.blk idx blk hb with ⟨_, h2, _⟩ | ⟨b, sh, h1, _⟩
         ·rw [h2] at hcell; simp at hcell
         ·obtain ⟨_, _, _, h4⟩ := rowCells hR hb ha h1
          obtain ⟨v', hv', _, h5⟩ := h4 _ _ hcell
          have hi := h5 _ _ _ rfl hfr
          rcases hva with h0 | ⟨b0, off0, hA0, h6⟩
          ·rw [h0] at hy; simp at hy
          ·have hv6 := h6 p v hv
           rcases (hm b sh _ h1).1 with h7 | h7
           ·have hn0 : k = 0 := by omega
            subst hn0
            simp at hl
            rw [hl] at hy
            simp at hy
           ·rw [hA0] at h7
            cases h7
            rw [Nat.add_assoc] at hv6
            rw [hv'] at hv6
            cases hv6
            exact hi
        ·cases hrow
       ·cases he
      ·cases he
     ·intro p κ hκ
      cases hκ
      exact ⟨idx, off + p, rfl, by simp⟩
     ·intro p p' κ h1 h2
      cases h1
      simp only [Option.some.injEq, Prod.mk.injEq, true_and] at h2
      omega
    ·cases hs
   ·cases hs
  ·cases hs
 ·rename_i hany
  cases hs
  refine ⟨[], vs, fun _ => none, Gone.nil σ, by simp, hvl.symm, hreads, fun p y v hy hv => ⟨hvc p y v hy hv, fun e2 n2 zs hz => ?_⟩, by simp, by simp⟩
  subst hz
  exact absurd (any_nst hy) hany
end
end Go.Ev
namespace Go.Ev
open Go Go.RowKit
section
variable {G : Cfg} {c c' : Cx} {σ σ' : Store} {w w' : World} {P : Program}
theorem appendRow (hR : Rel G c σ w) {ds : List Id} {τ : Store} (hg : Gone σ τ ds) {t e by_ n b o : Nat} {fr nest : Bool} {cells : List AV} {rd wr : List Id} {eff : Eff} (h : appendNew τ t fr nest e by_ n cells rd wr = some eff)
  (hf : Frame' c w w') (hbb : (w.heap.size ≤ b ∧ b < w'.heap.size) ∨ ∃ j sh e', j ∈ ds ∧ c.m (j, none) = some (some (b, sh, e'))) (hfar : ∀ b', b' < w.heap.size → b' ≠ b → w'.heap[b']? = w.heap[b']?)
  (hp : Plain w' b) (hfr : fr = true → c.base ≤ b) {vs : List Value} (hl : cells.length = vs.length) {src : Nat → Option Key}
  (hcell : ∀ (p : Nat) y v, cells[p]? = some y → vs[p]? = some v → VC (c.ok w) w y v ∧ ∀ e n zs, y = .nst e n zs → ∃ κ, src p = some κ ∧ NstInfo c w (c.ok w) κ e n zs v)
  (hsrc : ∀ (p : Nat) (κ : Key), src p = some κ → ∃ j q, κ = (j, some q) ∧ j ∈ ds) (hinj : ∀ (p p' : Nat) (κ : Key), src p = some κ → src p' = some κ → p = p')
  (hread : ∀ (p : Nat) v, vs[p]? = some v → w'.cell? ⟨b, o + p, none⟩ = some v) :
  eff.val = .own (.v t) none 0 n n ∧ ∃ c', Rel G c' eff.σ w' ∧ Ext c w c' w' ∧ c'.m (.v t, none) = some (some (b, o, e)) ∧ c'.kn (.v t) := by
 unfold appendNew at h
 split at h
 ·rename_i hc
  cases h
  obtain ⟨_, _, _, hk⟩ := hc
  refine ⟨rfl, ?_⟩
  have hi : ¬ c.kn (.v t) := fun hkn => by rw [hR.kn, ← hg.has, hk] at hkn; cases hkn
  refine newArr hR hf (D := fun j => j ∈ ds) (blk := ⟨true, fr, nest, e, cells⟩) (b := b) (sh := o) src (c.ok w) hi rfl ?_ ?_ hinj ?_ ?_ (get_put_same _ _ _) ?_ ?_ ?_ ?_ hp hfr ?_
  ·rcases hbb with h | ⟨j, sh, e', hj, hm⟩
   ·exact .inl h
   ·exact .inr ⟨j, none, sh, e', hj, hm⟩
  ·intro p κ hs
   obtain ⟨j, q, rfl, hj⟩ := hsrc p κ hs
   exact hj
  ·intro p κ sh' e' hs hm
   obtain ⟨j, q, rfl, hj⟩ := hsrc p κ hs
   rcases hbb with h | ⟨j2, sh, e2, hj2, hm2⟩
   ·have := hR.lt b ⟨_, _, _, hm⟩; omega
   ·have := hR.inj _ _ _ _ _ _ _ hm hm2
    cases this
  ·intro j; rw [has_put, hg.has]
  ·intro j hj hD; rw [get_put_ne _ _ hj]; exact hg.gone j hD
  ·intro j hj hD; rw [get_put_ne _ _ hj]; exact hg.other j hD
  ·intro b' hb' hne; exact hfar b' (hR.lt b' hb') hne
  ·intro b' hb'
   obtain ⟨h1, h2⟩ := hR.Sok b' hb'
   have hne : b' ≠ b := by
    rintro rfl
    rcases hbb with h | ⟨j, sh, e', _, hm⟩
    ·omega
    ·exact h2 ⟨_, _, _, hm⟩
   refine ⟨h1, hfar b' h1 hne, ?_⟩
   rcases hb' with hs | ⟨h3, _, _⟩
   ·exact .inl hs
   ·exact .inr ⟨h3, hne, fun p κ sh' e' _ hm => h2 ⟨_, _, _, hm⟩, fun j sub sh' e' _ hm => h2 ⟨_, _, _, hm⟩⟩
  ·intro p y hy
   have hp : p < vs.length := by have := (List.getElem?_eq_some_iff.1 hy).1; simp only at this; omega
   obtain ⟨v, hv⟩ : ∃ v, vs[p]? = some v := ⟨_, List.getElem?_eq_getElem hp⟩
   obtain ⟨h1, h2⟩ := hcell p y v hy hv
   exact ⟨v, hread p v hv, h1, h2⟩
 ·cases h
theorem appendNew_ok {σ : Store} {t : Nat} {fr nest : Bool} {e by_ n : Nat} {cells : List AV} {rd wr : List Id} {eff : Eff} (h : appendNew σ t fr nest e by_ n cells rd wr = some eff) :
  n * by_ ≤ 140737488355328 ∧ n ≤ 9223372036854775807 ∧ (cells.any isNst = true → fr = true) := by
 unfold appendNew at h
 split at h
 ·rename_i hc; exact ⟨hc.1, hc.2.1, hc.2.2.1⟩
 ·cases h
theorem appendGrow (hR : Rel G c σ w) {ds : List Id} {τ : Store} (hg : Gone σ τ ds) {t e by_ n k : Nat} {fr nest : Bool} {cells : List AV} {rd wr : List Id} {eff : Eff} (h : appendNew τ t fr nest e by_ n cells rd wr = some eff)
  {vs rest : List Value} {ty : TypeId} (hl : cells.length = vs.length) {src : Nat → Option Key}
  (hcell : ∀ (p : Nat) y v, cells[p]? = some y → vs[p]? = some v → VC (c.ok w) w y v ∧ ∀ e n zs, y = .nst e n zs → ∃ κ, src p = some κ ∧ NstInfo c w (c.ok w) κ e n zs v)
  (hsrc : ∀ (p : Nat) (κ : Key), src p = some κ → ∃ j q, κ = (j, some q) ∧ j ∈ ds) (hinj : ∀ (p p' : Nat) (κ : Key), src p = some κ → src p' = some κ → p = p')
  (hnk : n ≤ k) (hsz : (vs ++ rest).length = k * e) :
  ∃ c', Rel G c' eff.σ (w.drew.alloc (.cells (vs ++ rest).toArray ty)) ∧ Ext c w c' (w.drew.alloc (.cells (vs ++ rest).toArray ty)) ∧
   VR c' (w.drew.alloc (.cells (vs ++ rest).toArray ty)) eff.val (.slice (some ⟨w.heap.size, 0, none⟩) n k) := by
 have hF : Frame' c w (w.drew.alloc (.cells (vs ++ rest).toArray ty)) := (Frame'.drew c w).trans (Frame'.alloc c w.drew _)
 obtain ⟨he, c', h1, h2, h3, h4⟩ := appendRow hR hg h hF (b := w.heap.size) (o := 0) (.inl ⟨Nat.le_refl _, by simp⟩) (fun b' hb' _ => Below.heap_alloc w.drew _ _ hb') (plain_alloc w.drew _ _) (fun _ => hR.base) hl hcell hsrc hinj (fun p v hv => by
  have := cell_alloc_new w.drew (vs ++ rest).toArray ty (0 + p)
  rw [show w.drew.heap.size = w.heap.size from rfl] at this
  rw [this, Nat.zero_add, ← Array.getElem?_toList]
  simp only
  rw [List.getElem?_append_left (List.getElem?_eq_some_iff.1 hv).1]
  exact hv)
 refine ⟨c', h1, h2, ?_⟩
 rw [he, VR_own]
 refine ⟨h4, _, _, rfl, hnk, hnk, by simp, ?_, ?_⟩
 ·intro h; rw [h3] at h; cases h
 ·intro b sh e' h
  rw [h3] at h
  cases h
  refine ⟨.inr rfl, _, _, shape_alloc w.drew _ ty, ?_⟩
  rw [List.size_toArray, hsz]
  omega
theorem appendNone (hR : Rel G c σ w) {ds : List Id} {τ : Store} (hg : Gone σ τ ds) {t e by_ : Nat} {fr nest : Bool} {rd wr : List Id} {eff : Eff} (h : appendNew τ t fr nest e by_ 0 [] rd wr = some eff) :
  eff.val = .own (.v t) none 0 0 0 ∧ ∃ c', Rel G c' eff.σ w ∧ Ext c w c' w ∧ c'.m (.v t, none) = some none ∧ c'.kn (.v t) := by
 unfold appendNew at h
 split at h
 ·rename_i hc
  cases h
  obtain ⟨_, _, _, hk⟩ := hc
  refine ⟨rfl, ?_⟩
  have hi : ¬ c.kn (.v t) := fun hkn => by rw [hR.kn, ← hg.has, hk] at hkn; cases hkn
  have hnt : (.v t) ∉ ds := fun hm => by
   obtain ⟨b, hb⟩ := hg.was _ hm
   exact hi ((hR.kn _).2 (has_of_get hb))
  let new : Option Nat → Option (Option (Nat × Nat × Nat)) := fun s => match s with | none => some none | some _ => none
  have h0 : (c.move (fun j => j ∈ ds) (.v t) new).m (.v t, none) = some none := move_same _ _ _ _
  refine ⟨c.move (fun j => j ∈ ds) (.v t) new, ?_, Ext.move (Frame'.refl c w) hi ?_, h0, .inr rfl⟩
  ·refine Rel.move hR (Frame'.refl c w) (blk := ⟨true, fr, nest, e, []⟩) hi ?_ ?_ ?_ (fun j => by rw [has_put, hg.has]) (get_put_same _ _ _) (fun j hj hD => by rw [get_put_ne _ _ hj]; exact hg.gone j hD)
    (fun j hj hD => by rw [get_put_ne _ _ hj]; exact hg.other j hD) (fun _ _ _ _ _ _ _ => rfl) (.inl ⟨h0, rfl, rfl⟩)
   ·intro sub b sh e hn
    cases sub <;> simp only [new] at hn <;> cases hn
   ·intro s s' b sh e sh' e' hn
    cases s <;> simp only [new] at hn <;> cases hn
   ·intro p hp; exact absurd rfl hp
  ·intro sub b sh e hn
   cases sub <;> simp only [new] at hn <;> cases hn
 ·cases h
end
end Go.Ev
namespace Go.Ev
open Go Go.RowKit
section
variable {G : Cfg} {c c' : Cx} {σ σ' : Store} {w w' : World} {P : Program}
theorem zeroCells_length (z : Array Value) (n : Nat) : (Builtin.zeroCells z n).toList.length = n * z.size := by simp [Builtin.zeroCells]
theorem grown_length {z : Array Value} {vs : List Value} {w : World} {n old e : Nat} {el : TypeId} (hl : vs.length = n * e) (hz : z.size = e) :
  (vs ++ (Builtin.zeroCells z (grownCap w n old el - n)).toList).length = grownCap w n old el * e := by
 have := grownCap_ge w n old el
 rw [List.length_append, zeroCells_length, hl, hz, ← Nat.add_mul]
 congr 1
 omega
theorem isSome_cell {b j : Nat} {t : TypeId} {z : Nat} (h : w.shape? b = some (t, z)) (hj : j < z) : (w.cell? ⟨b, j, none⟩).isSome = true := by
 unfold World.shape? at h
 unfold World.cell?
 simp only
 split at h
 ·rename_i cs e fz hb
  cases h
  simp [hb, hj]
 ·cases h
theorem add_lit' (b o j : Nat) : (⟨b, o, none⟩ : Addr).add j = ⟨b, o + j, none⟩ := by unfold Addr.add; split <;> simp_all
theorem evAppend_run (hR : Rel G c σ w) {st tx ty : TypeId} {u : TypeDesc} (hu : G.P.underlying tx = some u) (hui : ∀ k, u ≠ .int k) {s x : AV} {t : Nat} {eff : Eff} (h : evAppend G σ st s x t = some eff)
  {sv xv : Value} (hs : VR c w s sv) (hxv : VR c w x xv) :
  ∃ c' w' v, (Builtin.append_ #[st, tx] ty #[sv, xv]).run G.P w = .ok v w' ∧ Rel G c' eff.σ w' ∧ Ext c w c' w' ∧ VR c' w' eff.val v := by
 unfold evAppend at h
 obtain ⟨et, het, h1⟩ := Option.bind_eq_some_iff.1 h
 obtain ⟨e, hes, h2⟩ := Option.bind_eq_some_iff.1 h1
 obtain ⟨by_, hby, h3⟩ := Option.bind_eq_some_iff.1 h2
 obtain ⟨z, hz, h4⟩ := Option.bind_eq_some_iff.1 h3
 clear h h1 h2 h3
 split at h4
 ·rename_i hzl
  obtain ⟨q, hq, h5⟩ := Option.bind_eq_some_iff.1 h4
  obtain ⟨k, new, rd⟩ := q
  obtain ⟨σ1, hσ1, h⟩ := Option.bind_eq_some_iff.1 h5
  clear h4 h5
  simp only at hσ1 h
  obtain ⟨i, hi, rfl⟩ := szT_spec hes
  obtain ⟨i', hi', rfl⟩ := byT_spec hby
  rw [hi] at hi'; cases hi'
  obtain ⟨i', zv, hi', hzv, rfl, ho⟩ := zeroT_spec hz
  rw [hi] at hi'; cases hi'
  have hzs : zv.cells.size = i.size := by simpa using hzl
  have hst := slT_spec het
  obtain ⟨dx, news, nsrc, hg, hdx, hnl, hrd, hnc, hnsrc, hninj⟩ := appendSrc_run hR hq hσ1 hxv
  have hnlen : news.length = k * i.size := hrd.1
  have hno : ∀ v, v ∈ news → v.oneCell' = true := by
   intro v hv
   obtain ⟨j, hj⟩ := List.mem_iff_getElem?.1 hv
   have hjl : j < new.length := by have := (List.getElem?_eq_some_iff.1 hj).1; omega
   exact VC_one (hnc j _ v (List.getElem?_eq_getElem hjl) hj).1
  have hσ0 : new.any isNst = false → σ1 = σ := by
   intro h0
   unfold appendSrc at hσ1
   rw [h0] at hσ1
   simp at hσ1
   exact hσ1.symm
  have hk0 : k = 0 → new = [] ∧ news = [] := by
   intro h0
   subst h0
   have h1 : news = [] := List.eq_nil_of_length_eq_zero (by simpa using hnlen)
   exact ⟨List.eq_nil_of_length_eq_zero (by rw [hnl, h1]; rfl), h1⟩
  unfold evAppend1 at h
  split at h
  ·-- nothing yet
   obtain ⟨A, rfl⟩ := VR_emp.1 hs
   by_cases h0 : k = 0
   ·obtain ⟨h1, h2⟩ := hk0 h0
    subst h0
    subst h1
    obtain ⟨he, c', k1, k2, k3, k4⟩ := appendNone hR hg h
    refine ⟨c', w, .slice A 0 0, ?_, k1, k2, ?_⟩
    ·refine run_append_in hst hi hu hui hrd (by omega) ?_
     cases A with
     | none => exact .inl ⟨rfl, rfl⟩
     | some a => exact .inr ⟨a, rfl, by rw [h2]; rfl⟩
    ·rw [he, VR_own]
     exact ⟨k4, A, 0, rfl, Nat.le_refl _, Nat.le_refl _, fun _ => rfl, fun _ => rfl, fun b sh e hm => by rw [k3] at hm; cases hm⟩
   ·obtain ⟨hb, h63, _⟩ := appendNew_ok h
    have hr := run_append_out (P := G.P) (w := w) (ty := ty) (A := A) (sLen := 0) (sCap := 0) (olds := []) hst hi hzv hu hui ⟨by simp, A, 0, rfl, .inl rfl⟩ hrd (by omega) (by omega) (by simpa using hb)
    simp only [Nat.zero_add, List.nil_append] at hr
    obtain ⟨c', h1, h2, h3⟩ := appendGrow hR hg h (vs := news) (rest := (Builtin.zeroCells zv.cells (grownCap w k 0 et - k)).toList) (ty := et) hnl hnc hnsrc hninj (grownCap_ge w k 0 et) (grown_length hnlen hzs)
    exact ⟨c', _, _, hr, h1, h2, h3⟩
  ·-- a row that is only read
   rename_i e' n xs
   split at h
   ·rename_i h0
    cases h
    obtain ⟨h1, h2⟩ := hk0 h0
    subst h0
    have hσ := hσ0 (by rw [h1]; rfl)
    obtain ⟨A, kk, rfl, hn, _⟩ := VR_sl.1 hs
    refine ⟨c, w, .slice A n kk, ?_, by rw [hσ]; exact hR, Ext.refl c w, hs⟩
    refine run_append_in (m := 0) hst hi hu hui hrd (by omega) ?_
    cases A with
    | none => exact .inl ⟨rfl, rfl⟩
    | some a => exact .inr ⟨a, rfl, by rw [h2]; rfl⟩
   ·cases h
  ·-- a row of one's own
   rename_i id sub off n cap
   obtain ⟨hkn, A, kk, rfl, hn, hc, hA0, hm0, hm⟩ := VR_own.1 hs
   unfold appendTo at h
   split at h
   ·rename_i q blk hrow hblk
    obtain ⟨cs, e'⟩ := q
    split at h
    ·rename_i hcond
     obtain ⟨rfl, hrdc⟩ := hcond
     simp only at hrow h hm ⊢
     have hidx : id ∉ dx := fun hd => by rw [hg.gone id hd] at hblk; cases hblk
     have hblk0 : σ.get? id = some blk := by rw [← hg.other id hidx]; exact hblk
     split at h
     ·-- there is room
      rename_i hroom0
      have hroom := hroom0.1
      split at h
      ·rename_i hfit
       obtain ⟨σ2, hset, he⟩ := Option.map_eq_some_iff.1 h
       cases he
       have hσ := hσ0 hfit.2
       subst hσ
       have hmul : (n + k) * i.size ≤ cap * i.size := Nat.mul_le_mul_right _ hroom
       rw [Nat.add_mul] at hmul
       obtain ⟨c', w', k1, k2, k3⟩ := writeRow_run hR (Gone.nil _) hrow (by simp) (ys := new) (vs := news) (off := off + n * i.size) hset (by have := hfit.1; omega) hnl (fun p y v hy hv => by
        refine ⟨VC_ok (fun b hb => .inl hb) (hnc p y v hy hv).1, ?_⟩
        have h1 := hfit.2
        rw [List.any_eq_false] at h1
        have := h1 y (List.mem_of_getElem? hy)
        cases h2 : isNst y
        ·rfl
        ·exact absurd h2 this)
       refine ⟨c', w', .slice A (n + k) kk, ?_, k1, k2, ?_⟩
       ·refine run_append_in hst hi hu hui hrd (by omega) ?_
        rcases k3 with ⟨k4, rfl⟩ | ⟨b, sh, k4, rfl, k5, k6⟩
        ·cases A with
         | none => exact .inl ⟨rfl, rfl⟩
         | some a => exact .inr ⟨a, rfl, by rw [k4]; rfl⟩
        ·rcases (hm b sh _ k4).1 with k7 | k7
         ·have : k = 0 := by omega
          obtain ⟨_, k8⟩ := hk0 this
          rw [k8]
          cases A with
          | none => exact .inl ⟨rfl, rfl⟩
          | some a => exact .inr ⟨a, rfl, rfl⟩
         ·refine .inr ⟨_, k7, ?_⟩
          rw [add_lit', Nat.add_assoc sh off]
          have := run_storeCells_cells (P := G.P) b (sh + (off + n * i.size)) news 0 w (by simpa using k6) (fun j _ => frozen_plain k5 _) hno
          simpa using this
       ·refine hR.vr k2 (VR_own.2 ⟨hkn, A, kk, rfl, by omega, hc, hA0, hm0, hm⟩)
      ·cases h
     ·rename_i hroom
      split at h
      ·rename_i hfit
       obtain ⟨hf1, hf2, rfl⟩ := hfit
       obtain ⟨hb, h63, hnf⟩ := appendNew_ok h
       have hg2 : Gone σ (σ1.del id) (dx ++ [id]) := hg.del hblk
       obtain ⟨ha, rfl⟩ : blk.arr = true ∧ cs = blk.cells := by
        simp only [rowOf, hblk] at hrow
        split at hrow
        ·rename_i ha
         simp only [Option.some.injEq, Prod.mk.injEq] at hrow
         exact ⟨ha, hrow.1.symm⟩
        ·cases hrow
       obtain ⟨olds, hol, hoc⟩ : ∃ olds : List Value, olds.length = n * i.size ∧ ((kk = 0 ∧ olds = []) ∨ ∃ b sh, c.m (id, none) = some (some (b, sh, i.size)) ∧ Plain w b ∧ (blk.fr = true → c.base ≤ b) ∧ ∀ (j : Nat) v, olds[j]? = some v → w.cell? ⟨b, sh + off + j, none⟩ = some v ∧
         ∃ y, blk.cells[off + j]? = some y ∧ VC (c.ok w) w y v ∧ ∀ e n zs, y = .nst e n zs → blk.fr = true → NstInfo c w (c.ok w) (id, some (off + j)) e n zs v) := by
        rcases hR.blk id blk hblk0 with ⟨m1, m2, _⟩ | ⟨b, sh, m1, _⟩
        ·refine ⟨[], ?_, .inl ⟨hm0 m1, rfl⟩⟩
         rw [m2] at hf1
         simp only [List.length_nil] at hf1 ⊢
         omega
        ·obtain ⟨_, r2, r3, r4⟩ := rowCells hR hblk0 ha m1
         have hesz : blk.esz = i.size := by
          simp only [rowOf, hblk] at hrow
          rw [if_pos ha] at hrow
          simp only [Option.some.injEq, Prod.mk.injEq] at hrow
          exact hrow.2
         rw [hesz] at m1
         have hv : VCs (c.ok w) w ((blk.cells.drop off).take (n * i.size)) b (sh + off) := VCs_mk fun j y hy => by
          rw [List.getElem?_take] at hy
          split at hy
          ·rw [List.getElem?_drop] at hy
           obtain ⟨v, hv1, hv2, _⟩ := r4 _ _ hy
           exact ⟨v, by rw [Nat.add_assoc]; exact hv1, hv2⟩
          ·cases hy
         obtain ⟨olds, o1, o2, o3⟩ := VCs_vals hv
         have hol : olds.length = n * i.size := by rw [o1]; simp; omega
         refine ⟨olds, hol, .inr ⟨b, sh, m1, r2, r3, fun j v hj => ⟨o2 j v hj, ?_⟩⟩⟩
         have hjl := (List.getElem?_eq_some_iff.1 hj).1
         have hjl2 : off + j < blk.cells.length := by omega
         refine ⟨_, List.getElem?_eq_getElem hjl2, ?_⟩
         obtain ⟨v', hv1, hv2, hv3⟩ := r4 (off + j) _ (List.getElem?_eq_getElem hjl2)
         have := o2 j v hj
         rw [Nat.add_assoc, hv1] at this
         cases this
         exact ⟨hv2, hv3⟩
       have hlt : ((blk.cells.drop off).take (n * i.size)).length = n * i.size := by simp; omega
       have hold : ∀ (j : Nat) v, olds[j]? = some v → ∃ y, blk.cells[off + j]? = some y ∧ VC (c.ok w) w y v ∧ ∀ e n zs, y = .nst e n zs → blk.fr = true → NstInfo c w (c.ok w) (id, some (off + j)) e n zs v := by
        intro j v hj
        rcases hoc with ⟨_, rfl⟩ | ⟨b, sh, _, _, _, h⟩
        ·simp at hj
        ·exact (h j v hj).2
       let src : Nat → Option Key := fun p => if p < n * i.size then some (id, some (off + p)) else nsrc (p - n * i.size)
       have hcl : ((blk.cells.drop off).take (n * i.size) ++ new).length = (olds ++ news).length := by rw [List.length_append, List.length_append, hlt, hol, hnl]
       have hcell : ∀ (p : Nat) y v, ((blk.cells.drop off).take (n * i.size) ++ new)[p]? = some y → (olds ++ news)[p]? = some v → VC (c.ok w) w y v ∧ ∀ e n zs, y = .nst e n zs → ∃ κ, src p = some κ ∧ NstInfo c w (c.ok w) κ e n zs v := by
        intro p y v hy hv
        by_cases hpn : p < n * i.size
        ·have hy' := hy
         rw [List.getElem?_append_left (by omega), List.getElem?_take, if_pos hpn, List.getElem?_drop] at hy
         rw [List.getElem?_append_left (by omega)] at hv
         obtain ⟨y', h1, h2, h3⟩ := hold p v hv
         rw [hy] at h1
         cases h1
         refine ⟨h2, fun e n zs he => ⟨_, if_pos hpn, h3 e n zs he (hnf ?_)⟩⟩
         subst he
         exact any_nst hy'
        ·rw [List.getElem?_append_right (by omega), hlt] at hy
         rw [List.getElem?_append_right (by omega), hol] at hv
         obtain ⟨h1, h2⟩ := hnc _ _ _ hy hv
         refine ⟨h1, fun e n zs he => ?_⟩
         obtain ⟨κ, h3, h4⟩ := h2 e n zs he
         exact ⟨κ, by simp only [src]; rw [if_neg hpn]; exact h3, h4⟩
       have hsrc : ∀ (p : Nat) (κ : Key), src p = some κ → ∃ j q, κ = (j, some q) ∧ j ∈ dx ++ [id] := by
        intro p κ h
        simp only [src] at h
        split at h
        ·cases h; exact ⟨id, off + p, rfl, by simp⟩
        ·obtain ⟨j, q, h1, h2⟩ := hnsrc _ _ h
         exact ⟨j, q, h1, List.mem_append.2 (.inl h2)⟩
       have hinj : ∀ (p p' : Nat) (κ : Key), src p = some κ → src p' = some κ → p = p' := by
        intro p p' κ h1 h2
        simp only [src] at h1 h2
        split at h1 <;> split at h2
        ·cases h1
         simp only [Option.some.injEq, Prod.mk.injEq, true_and] at h2
         omega
        ·cases h1
         obtain ⟨j, q, h3, h4⟩ := hnsrc _ _ h2
         cases h3
         exact absurd h4 hidx
        ·cases h2
         obtain ⟨j, q, h3, h4⟩ := hnsrc _ _ h1
         cases h3
         exact absurd h4 hidx
        ·have := hninj _ _ _ h1 h2
         omega
       by_cases hkz : k = 0
       ·-- nothing is added: the row bears a new name
        obtain ⟨hz1, hz2⟩ := hk0 hkz
        subst hkz
        subst hz1
        subst hz2
        have hrun : (Builtin.append_ #[st, tx] ty #[.slice A n kk, xv]).run G.P w = .ok (.slice A n kk) w := by
         refine run_append_in (m := 0) hst hi hu hui hrd (by omega) ?_
         cases A with
         | none => exact .inl ⟨rfl, rfl⟩
         | some a => exact .inr ⟨a, rfl, rfl⟩
        rcases hR.blk id blk hblk0 with ⟨m1, m2, _⟩ | ⟨b, sh, m1, _⟩
        ·have hkk := hm0 m1
         have hn0 : n = 0 := by omega
         subst hn0
         have hcs : (blk.cells.drop off).take (0 * i.size) ++ ([] : List AV) = [] := by simp
         rw [hcs] at h
         obtain ⟨he, c', k1, k2, k3, k4⟩ := appendNone hR hg2 h
         refine ⟨c', w, _, hrun, k1, k2, ?_⟩
         rw [he, VR_own]
         exact ⟨k4, A, kk, rfl, Nat.zero_le _, Nat.zero_le _, fun _ => hkk, fun _ => hkk, fun b sh e hm => by rw [k3] at hm; cases hm⟩
        ·obtain ⟨_, r2, r3, r4⟩ := rowCells hR hblk0 ha m1
         have hesz : blk.esz = i.size := by
          simp only [rowOf, hblk] at hrow
          rw [if_pos ha] at hrow
          simp only [Option.some.injEq, Prod.mk.injEq] at hrow
          exact hrow.2
         rw [hesz] at m1
         obtain ⟨hA, ty', zz, hshape, hzz⟩ := hm b sh _ m1
         obtain ⟨he, c', k1, k2, k3, k4⟩ := appendRow hR hg2 h (Frame'.refl c w) (b := b) (o := sh + off) (.inr ⟨id, sh, i.size, by simp, m1⟩) (fun _ _ _ => rfl) r2 r3 hcl hcell hsrc hinj (fun p v hv => by
          rw [List.append_nil] at hv
          rcases hoc with ⟨_, rfl⟩ | ⟨b2, sh2, q1, q2, q3, q4⟩
          ·simp at hv
          ·rw [m1] at q1
           cases q1
           exact (q4 p v hv).1)
         refine ⟨c', w, _, hrun, k1, k2, ?_⟩
         rw [he, VR_own]
         refine ⟨k4, A, kk, rfl, hn, hn, hA0, ?_, ?_⟩
         ·intro h; rw [k3] at h; cases h
         ·intro b' sh' e' h
          rw [k3] at h
          cases h
          exact ⟨by simpa using hA, ty', zz, hshape, by omega⟩
       have hkp : 0 < k := by omega
       by_cases hin : n + k ≤ kk
       ·-- the machine's array has room
        rcases hoc with ⟨hkk, _⟩ | ⟨b, sh, m1, m2, m3, m4⟩
        ·omega
        ·obtain ⟨hA, ty', zz, hshape, hzz⟩ := hm b sh _ m1
         have hA' : A = some ⟨b, sh + off, none⟩ := by
          rcases hA with h | h
          ·omega
          ·exact h
         have hmul : (n + k) * i.size ≤ kk * i.size := Nat.mul_le_mul_right _ hin
         rw [Nat.add_mul] at hmul
         have hsome : ∀ j, j < news.length → (w.cell? ⟨b, sh + off + n * i.size + j, none⟩).isSome = true := fun j hj => isSome_cell hshape (by omega)
         have hF : Frame' c w (w.setCells b (sh + off + n * i.size) news) := Frame'.set m2 ⟨_, _, _, m1⟩ _ _
         obtain ⟨he, c', k1, k2, k3, k4⟩ := appendRow hR hg2 h hF (b := b) (o := sh + off) (.inr ⟨id, sh, i.size, by simp, m1⟩) (fun b' _ hne => setW_far _ _ b' hne) (m2.set _ _ _) m3 hcl hcell hsrc hinj (fun p v hv => by
          by_cases hpn : p < n * i.size
          ·rw [List.getElem?_append_left (by omega)] at hv
           rw [World.cell?_setCells_out _ _ _ _ _ (fun _ _ => by simp only; omega)]
           exact (m4 p v hv).1
          ·rw [List.getElem?_append_right (by omega), hol] at hv
           obtain ⟨hv1, hv2⟩ := List.getElem?_eq_some_iff.1 hv
           have := World.cell?_setCells_in b news (sh + off + n * i.size) w hsome _ hv1
           rw [hv2, show sh + off + n * i.size + (p - n * i.size) = sh + off + p by omega] at this
           exact this)
         refine ⟨c', _, .slice A (n + k) kk, ?_, k1, k2, ?_⟩
         ·refine run_append_in hst hi hu hui hrd hin (.inr ⟨_, hA', ?_⟩)
          rw [add_lit']
          have := run_storeCells_cells (P := G.P) b (sh + off + n * i.size) news 0 w (by simpa using hsome) (fun j _ => frozen_plain m2 _) hno
          simpa using this
         ·rw [he, VR_own]
          refine ⟨k4, A, kk, rfl, hin, hin, hA0, ?_, ?_⟩
          ·intro h; rw [k3] at h; cases h
          ·intro b' sh' e' h
           rw [k3] at h
           cases h
           exact ⟨.inr hA', ty', zz, by rw [hF.shape b (hR.lt b ⟨_, _, _, m1⟩)]; exact hshape, by omega⟩
       ·-- it has not
        have hold2 : Reads w (.slice A n kk) i.size n olds := by
         refine ⟨hol, A, kk, rfl, ?_⟩
         rcases hoc with ⟨_, h⟩ | ⟨b, sh, m1, m2, m3, m4⟩
         ·exact .inl h
         ·rcases (hm b sh _ m1).1 with h | h
          ·left
           have : n = 0 := by omega
           exact List.eq_nil_of_length_eq_zero (by rw [hol, this, Nat.zero_mul])
          ·exact .inr ⟨_, h, fun j u hj => by rw [add_lit']; exact (m4 j u hj).1⟩
        have hr := run_append_out (P := G.P) (w := w) (ty := ty) hst hi hzv hu hui hold2 hrd (by omega) h63 hb
        obtain ⟨c', h1, h2, h3⟩ := appendGrow hR hg2 h (vs := olds ++ news) (rest := (Builtin.zeroCells zv.cells (grownCap w (n + k) kk et - (n + k))).toList) (ty := et) hcl hcell hsrc hinj (grownCap_ge w (n + k) kk et)
         (grown_length (by rw [List.length_append, hol, hnlen, ← Nat.add_mul]) hzs)
        exact ⟨c', _, _, hr, h1, h2, h3⟩
      ·cases h
    ·cases h
   ·cases h
  ·cases h
 ·cases h4
end
end Go.Ev
