/-
 Ec: one of the texts behind a proof of laws.FnHidden: the evaluator with continuations; its laws
 Its conditions: none of its own.
-/
import Derived.Test.YtcjjgemeacdbiaaGreatDoorEb
import Derived.IntWalk
set_option maxRecDepth 100000
set_option linter.unusedVariables false
set_option linter.unusedSectionVars false
set_option linter.unusedSimpArgs false
set_option linter.unnecessarySimpa false
namespace Go.Ev
open Go
abbrev R := AV × Store
abbrev bx (cs : List AV) : Option Blk := some ⟨false, true, false, 0, cs⟩
abbrev bl (cs : List AV) : Option Blk := some ⟨false, false, false, 0, cs⟩
def bnd {α β : Type} (a : Option α) (f : α → Option β) : Option β := a.bind f
noncomputable def dec {α β : Type} (enc : α → β) (y : β) : Option α := open Classical in if h : ∃ a, enc a = y then some h.choose else none
noncomputable def cast {α β γ : Type} (enc : α → β) (r : Option β) (k : α → Option γ) : Option γ := bnd r fun y => bnd (dec enc y) k
structure TE where
 α : Type
 g : Bool
 c : α → List AV
def one : List AV → AV
 | [x] => x
 | _ => .junk
def TE.v (E : TE) (a : E.α) : AV := if E.g then .agg (E.c a) else one (E.c a)
def slc {α : Type} (c : α → List AV) (l : List α) : AV := .sl 0 l.length (l.flatMap c)
def rowB {α : Type} (fr nest : Bool) (e : Nat) (c : α → List AV) (l : List α) : Blk := ⟨true, fr, nest, e, l.flatMap c⟩
abbrev Tbl := TypeId → Option TE
structure KE where
 α : Type
 v : α → AV
 s : α → Store
structure Hn where
 t : Tbl
 row : FuncId → Id → Option TypeId
 cap : FuncId → List (Option TypeId)
 kept : FuncId → List AV → List KE
 n : Tbl
 no : FuncId → Bool := fun _ => false
def js (n : Nat) (r : List AV) : List AV := List.replicate n .junk ++ r
def asInt (k : IntKind) : AV → Option Int
 | .sc (.int k' n) => if k' = k then some n else none
 | _ => none
def asBool : AV → Option Bool
 | .sc (.bool b) => some b
 | _ => none
def asStr : AV → Option ByteArray
 | .sc (.string s) => some s
 | _ => none
def castS {γ : Type} (P : Program) (ty : TypeId) (v : AV) (k : AV → Option γ) : Option γ :=
 match P.underlying ty with
 | some (.int kd) => bnd (asInt kd v) fun n => k (.sc (.int kd n))
 | some .bool => bnd (asBool v) fun b => k (.sc (.bool b))
 | some .string => bnd (asStr v) fun s => k (.sc (.string s))
 | _ => k v
noncomputable def castT {γ : Type} (T : Tbl) (ty : TypeId) (r : Option AV) (k : AV → Option γ) : Option γ :=
 match T ty with
 | some E => cast E.v r fun a => k (E.v a)
 | none => bnd r k
abbrev Y (b : UInt8) : AV := .sc (.int .u8 b.toNat)
def cY (b : UInt8) : List AV := [Y b]
structure Known where
 kn : Value → Option (Nat × List AV)
noncomputable def knA {γ : Type} (K : Value → Option (Nat × List AV)) (v : Value) (k : List UInt8 → Option γ) : Option γ := cast (fun l : List UInt8 => (l.length, l.flatMap cY)) (K v) k
noncomputable def knK {γ : Type} (G : Cfg) (x : AV) (k : AV → Option γ) : Option γ := match x with
 | .sc (.slice A n m) => knA G.kn (.slice A n m) fun l => k (slc cY l)
 | x => k x
section
variable (G : Cfg) (T : Hn) (C : Oracle) (L : LoopOracle) (f : FuncId)
noncomputable def ixA {α γ : Type} (P : Program) (t : TypeId) (c : α → List AV) (x i : AV) (k : α → Option γ) : Option γ := cast (fun a => AV.iptr (c a)) (evIndexAddr P t x i) k
noncomputable def oxA {γ : Type} (P : Program) (t : TypeId) (id : Id) (sub : Option Nat) (s : Nat) (x i : AV) (k : Nat → Option γ) : Option γ := cast (fun j => AV.ptr id sub (j * s)) (evIndexAddr P t x i) k
noncomputable def paA {γ : Type} (P : Program) (t : TypeId) (id : Id) (sub : Option Nat) (off s : Nat) (i : AV) (k : Nat → Option γ) : Option γ := cast (fun j => AV.ptr id sub (off + j * s)) (evIndexAddr P t (.ptr id sub off) i) k
def isRow (σ : Store) : AV → Bool
 | .ptr id _ _ => match σ.get? id with
  | some b => b.arr
  | none => false
 | _ => false
def picks : List (Int × Nat) := [(0, 0), (1, 1), (2, 2), (3, 3), (4, 4), (5, 5), (6, 6), (7, 7), (8, 8), (9, 9), (10, 10), (11, 11)]
def pick {γ : Type} (i : Int) (f : Nat → Option γ) : List (Int × Nat) → Option γ
 | [] => none
 | (a, j) :: r => if i = a then f j else pick i f r
noncomputable def idxK {γ : Type} (ty : TypeId) (σ : Store) (x i : AV) (k : Eff → Option γ) : Option γ :=
 match x with
 | .own id sub _ _ _ => match (slT G.P ty).bind (szT G.P) with
  | some s => oxA G.P ty id sub s x i fun j => k { val := .ptr id sub (j * s), σ }
  | none => none
 | .ptr id sub off => match (arT G.P ty).bind fun p => (szT G.P p.2).map fun s => (p.1, s) with
  | some (n, s) => if isRow σ (.ptr id sub off) = true then paA G.P ty id sub off s i fun j => k { val := .ptr id sub (off + j * s), σ }
    else (match i with
     | .sc (.int _ m) => pick m (fun j => k { val := .ptr id sub (off + j * s), σ }) (picks.take n)
     | _ => none)
  | none => none
 | x => match ((slT G.P ty).or ((arT G.P ty).map (·.2))).bind T.t with
  | some E => ixA G.P ty E.c x i fun a => k { val := .iptr (E.c a), σ }
  | none => bnd (evIndexAddr G.P ty x i) fun v => k { val := v, σ }
noncomputable def ixS {γ : Type} (P : Program) (ty : TypeId) (x i : AV) (k : UInt8 → Option γ) : Option γ := cast (fun b : UInt8 => AV.sc (.int .u8 b.toNat)) (evIndex P ty x i) k
noncomputable def ixvK {γ : Type} (ty rt : TypeId) (σ : Store) (x i : AV) (k : Eff → Option γ) : Option γ :=
 match x with
 | .sc _ => ixS G.P ty x i fun b => k { val := .sc (.int .u8 b.toNat), σ }
 | x => castT T.t rt (evIndex G.P ty x i) fun v => k { val := v, σ }
noncomputable def ldN {γ : Type} (G : Cfg) (σ : Store) (ty : TypeId) (id : Id) (off : Nat) (k : Nat → Option γ) : Option γ :=
 cast (fun n : Nat => AV.own id (some off) 0 n n) (loadA G σ ty (.ptr id none off)) k
def nestAt (σ : Store) : AV → Option (Id × Nat)
 | .ptr id none off => match σ.get? id with
  | some b => bif b.nest then some (id, off) else none
  | none => none
 | _ => none
noncomputable def loadR {γ : Type} (ty : TypeId) (σ : Store) (a : AV) (k : Eff → Option γ) : Option γ := castT T.t ty (loadA G σ ty a) fun v => k { val := v, σ, rd := a.refs }
noncomputable def loadK {γ : Type} (ty : TypeId) (σ : Store) (a : AV) (k : Eff → Option γ) : Option γ :=
 if isRow σ a = true then (match slT G.P ty with
  | some _ => (match a with
   | .ptr id none off => (match nestAt σ (.ptr id none off) with
    | some _ => ldN G σ ty id off fun n => k { val := .own id (some off) 0 n n, σ, rd := [id] }
    | none => loadR G T ty σ (.ptr id none off) k)
   | a => loadR G T ty σ a k)
  | none => loadR G T ty σ a k)
 else bnd (loadA G σ ty a) fun v => castS G.P ty v fun v => k { val := v, σ, rd := a.refs }
noncomputable def stA {α γ : Type} (G : Cfg) (c : α → List AV) (σ : Store) (id : Id) (b : Blk) (ty : TypeId) (a x : AV) (k : List α → Option γ) : Option γ :=
 cast (fun l : List α => ({ val := undefA, σ := σ.put id { b with cells := l.flatMap c }, wr := [id] } : Eff)) (storeA G σ ty a x) k
noncomputable def stX {α γ : Type} (G : Cfg) (c : α → List AV) (σ : Store) (id : Id) (b : Blk) (ty : TypeId) (a x : AV) (ids : List Id) (k : List α → Option γ) : Option γ :=
 cast (fun l : List α => ({ val := undefA, σ := (delAll σ ids).put id { b with cells := l.flatMap c }, wr := id :: ids } : Eff)) (storeA G σ ty a x) k
def rowE (f : FuncId) (id : Id) (nest : Bool) : Option TE := (T.row f id).bind fun t => bif nest then (T.n t).or (T.t t) else T.t t
noncomputable def storeK {γ : Type} (ty : TypeId) (σ : Store) (a x : AV) (k : Eff → Option γ) : Option γ :=
 match a with
 | .ptr id sub off => match σ.get? id with
  | some b => if b.arr = true then
    (match rowE T f id b.nest with
     | some E => (match x.refs with
      | [] => stA G E.c σ id b ty (.ptr id sub off) x fun l => k { val := undefA, σ := σ.put id { b with cells := l.flatMap E.c }, wr := [id] }
      | i :: r => bif b.nest then (match rowE T f id false with
        | some E' => stX G E'.c σ id { b with nest := false } ty (.ptr id sub off) x (i :: r) fun l => k { val := undefA, σ := (delAll σ (i :: r)).put id { b with nest := false, cells := l.flatMap E'.c }, wr := id :: i :: r }
        | none => bnd (storeA G σ ty (.ptr id sub off) x) k)
       else stX G E.c σ id b ty (.ptr id sub off) x (i :: r) fun l => k { val := undefA, σ := (delAll σ (i :: r)).put id { b with cells := l.flatMap E.c }, wr := id :: i :: r })
     | none => bnd (storeA G σ ty (.ptr id sub off) x) k)
   else bnd (storeA G σ ty (.ptr id sub off) x) k
  | none => none
 | a => bnd (storeA G σ ty a x) k
noncomputable def sliceK0 {γ : Type} (ty : TypeId) (σ : Store) (x : AV) (lo hi mx : Option AV) (k : Eff → Option γ) : Option γ :=
 match x with
 | .sc _ => bnd (evSlice G.P σ ty x lo hi mx) fun v => bnd (asStr v) fun s => k { val := .sc (.string s), σ, rd := x.refs }
 | .emp => bnd (evSlice G.P σ ty .emp lo hi mx) fun v => castT T.t ty (some v) fun v => k { val := v, σ, rd := [] }
 | .own id sub off _ _ => match lo with
  | none => cast (fun p : Nat × Nat => AV.own id sub off p.1 p.2) (evSlice G.P σ ty x none hi mx) fun p => k { val := .own id sub off p.1 p.2, σ, rd := [id] }
  | some lo => match (slT G.P ty).bind (szT G.P) with
   | some s => cast (fun p : Nat × Nat × Nat => AV.own id sub (p.1 * s) p.2.1 p.2.2) (evSlice G.P σ ty x (some lo) hi mx) fun p => k { val := .own id sub (p.1 * s) p.2.1 p.2.2, σ, rd := [id] }
   | none => none
 | x => castT T.t ty (evSlice G.P σ ty x lo hi mx) fun v => k { val := v, σ, rd := x.refs }
noncomputable def emA {γ : Type} (P : Program) (σ : Store) (ty : TypeId) (x : AV) (lo hi mx : Option AV) (k : Option γ) : Option γ := cast (fun _ : Unit => AV.emp) (evSlice P σ ty x lo hi mx) fun _ => k
noncomputable def sliceK {γ : Type} (ty : TypeId) (σ : Store) (x : AV) (lo hi mx : Option AV) (k : Eff → Option γ) : Option γ :=
 match mx with
 | none => sliceK0 G T ty σ x lo hi none k
 | some m => (match x with
  | .sl e n xs => emA G.P σ ty (.sl e n xs) lo hi (some m) (k { val := .emp, σ, rd := [] })
  | .own id sub off n c => emA G.P σ ty (.own id sub off n c) lo hi (some m) (k { val := .emp, σ, rd := [id] })
  | x => sliceK0 G T ty σ x lo hi (some m) k)
noncomputable def mkA {α γ : Type} (G : Cfg) (inl : Bool) (c : α → List AV) (s : Nat) (σ : Store) (t : Nat) (ty : TypeId) (l m : AV) (k : List α → Option γ) : Option γ :=
 cast (fun l : List α => ({ val := .own (.v t) none 0 l.length l.length, σ := σ.put (.v t) (rowB true false s c l), wr := [.v t] } : Eff)) (evMakeSlice G inl σ (some t) ty l m) k
noncomputable def makeK {γ : Type} (ty : TypeId) (σ : Store) (dst : Option Tmp) (l m : AV) (k : Eff → Option γ) : Option γ :=
 match dst, slT G.P ty with
 | some t, some e => match T.t e, szT G.P e with
  | some E, some s => mkA G (G.inl f) E.c s σ t ty l m fun l => k { val := .own (.v t) none 0 l.length l.length, σ := σ.put (.v t) (rowB true false s E.c l), wr := [.v t] }
  | _, _ => bnd (evMakeSlice G (G.inl f) σ (some t) ty l m) k
 | _, _ => none
noncomputable def apN {α γ : Type} (G : Cfg) (c : α → List AV) (s : Nat) (σ : Store) (t : Nat) (ty : TypeId) (x : AV) (k : List α → Option γ) : Option γ :=
 cast (fun l : List α => ({ val := .own (.v t) none 0 l.length l.length, σ := σ.put (.v t) (rowB true false s c l), rd := x.refs, wr := [.v t] } : Eff)) (evAppend G σ ty .emp x t) k
noncomputable def apR {α γ : Type} (G : Cfg) (c : α → List AV) (fr nest : Bool) (s : Nat) (σ : Store) (t : Nat) (id : Id) (ty : TypeId) (v x : AV) (k : List α → Option γ) : Option γ :=
 cast (fun l : List α => ({ val := .own (.v t) none 0 l.length l.length, σ := (σ.del id).put (.v t) (rowB fr nest s c l), rd := x.refs, wr := [.v t, id] } : Eff)) (evAppend G σ ty v x t) k
noncomputable def apY {α γ : Type} (G : Cfg) (c : α → List AV) (s : Nat) (σ : Store) (t : Nat) (ty : TypeId) (x : AV) (k : List α → Option γ) : Option γ :=
 cast (fun l : List α => ({ val := .own (.v t) none 0 l.length l.length, σ := (delAll σ x.refs).put (.v t) (rowB true true s c l), rd := x.refs, wr := .v t :: x.refs } : Eff)) (evAppend G σ ty .emp x t) k
noncomputable def apX {α γ : Type} (G : Cfg) (c : α → List AV) (fr : Bool) (s : Nat) (σ : Store) (t : Nat) (id : Id) (ty : TypeId) (v x : AV) (k : List α → Option γ) : Option γ :=
 cast (fun l : List α => ({ val := .own (.v t) none 0 l.length l.length, σ := ((delAll σ x.refs).del id).put (.v t) (rowB fr true s c l), rd := x.refs, wr := .v t :: id :: x.refs } : Eff)) (evAppend G σ ty v x t) k
def inlE (f : FuncId) (ty : TypeId) : Option TE := bif G.inl f then (slT G.P ty).bind T.n else none
noncomputable def appendK {γ : Type} (ty : TypeId) (σ : Store) (s x : AV) (t : Nat) (k : Eff → Option γ) : Option γ :=
 match (slT G.P ty).bind T.t, (slT G.P ty).bind (szT G.P) with
 | some E, some e => match s with
  | .emp => (match inlE G T f ty with
   | some F => apY G F.c e σ t ty x fun l => k { val := .own (.v t) none 0 l.length l.length, σ := (delAll σ x.refs).put (.v t) (rowB true true e F.c l), rd := x.refs, wr := .v t :: x.refs }
   | none => apN G E.c e σ t ty x fun l => k { val := .own (.v t) none 0 l.length l.length, σ := σ.put (.v t) (rowB true false e E.c l), rd := x.refs, wr := [.v t] })
  | .own id none off n cap => match σ.get? id with
   | some b => (match inlE G T f ty with
    | some F => apX G F.c b.fr e σ t id ty (.own id none off n cap) x fun l => k { val := .own (.v t) none 0 l.length l.length, σ := ((delAll σ x.refs).del id).put (.v t) (rowB b.fr true e F.c l), rd := x.refs, wr := .v t :: id :: x.refs }
    | none => apR G E.c b.fr b.nest e σ t id ty (.own id none off n cap) x fun l => k { val := .own (.v t) none 0 l.length l.length, σ := (σ.del id).put (.v t) (rowB b.fr b.nest e E.c l), rd := x.refs, wr := [.v t, id] })
   | none => none
  | s => bnd (evAppend G σ ty s x t) k
 | _, _ => bnd (evAppend G σ ty s x t) k
noncomputable def convK {γ : Type} (src dst : TypeId) (σ : Store) (x : AV) (k : Eff → Option γ) : Option γ :=
 match x with
 | .sc v => bnd (evConv G.P σ src dst (.sc v)) k
 | x => cast (fun s => ({ val := .sc (.string s), σ, rd := x.refs } : Eff)) (evConv G.P σ src dst x) fun s => k { val := .sc (.string s), σ, rd := x.refs }
noncomputable def bsA {α γ : Type} (G : Cfg) (inl : Bool) (c : α → List AV) (s : Nat) (σ : Store) (t : Nat) (ty : TypeId) (len : Nat) (parts : List (Nat × AV)) (ids : List Id) (k : List α → Option γ) : Option γ :=
 cast (fun l : List α => ({ val := .own (.v t) none 0 len len, σ := (delAll σ ids).put (.v t) (rowB true inl s c l), wr := .v t :: ids } : Eff)) (evBuildSlice G inl σ (some t) ty len parts) k
noncomputable def bsK {γ : Type} (ty : TypeId) (σ : Store) (dst : Option Tmp) (len : Nat) (parts : List (Nat × AV)) (k : Eff → Option γ) : Option γ :=
 match AV.refsL (parts.map (·.2)) with
 | [] => bnd (evBuildSlice G (G.inl f) σ dst ty len parts) k
 | i :: r => match dst, (slT G.P ty).bind fun t => (bif G.inl f then (T.n t).or (T.t t) else T.t t), (slT G.P ty).bind (szT G.P) with
  | some t, some E, some s => bsA G (G.inl f) E.c s σ t ty len parts (i :: r) fun l => k { val := .own (.v t) none 0 len len, σ := (delAll σ (i :: r)).put (.v t) (rowB true (G.inl f) s E.c l), wr := .v t :: i :: r }
  | _, _, _ => bnd (evBuildSlice G (G.inl f) σ dst ty len parts) k
noncomputable def binK {γ : Type} (op : BinOp) (ty rt : TypeId) (σ : Store) (x y : AV) (k : Eff → Option γ) : Option γ :=
 match op, x, y with
 | .quo, .sc (.int kd a), .sc (.int kd' b) => if kd = kd' then (if b = 0 then none else k { val := .sc (.int kd (kd.wrap (a.tdiv b))), σ }) else none
 | .rem, .sc (.int kd a), .sc (.int kd' b) => if kd = kd' then (if b = 0 then none else k { val := .sc (.int kd (a.tmod b)), σ }) else none
 | .add, .sc (.string a), .sc (.string b) => if a.size + b.size ≤ 9223372036854775807 then k { val := .sc (.string (a ++ b)), σ } else none
 | op, x, y => bnd (evBinOp G.P op ty x y) fun v => castS G.P rt v fun v => k { val := v, σ }
def ptrT (P : Program) (t : TypeId) : Option TypeId := match P.underlying t with
 | some (.pointer e) => some e
 | _ => none
noncomputable def passOneK {γ : Type} (T : Tbl) (σ : Store) (N : Names) (l : Bool) (x : AV) (ty : Option TypeId) (k : AV × List Id → Option γ) : Option γ :=
 match x with
 | .ptr id s off => k (AV.ren N (.ptr id s off), [])
 | .clo g cs => k (AV.ren N (.clo g cs), [])
 | x => if l = true then k (x.ren N, [])
  else match x.refs, ty with
   | _ :: _, some ty => castT T ty (giveUpV σ x) fun y => k (y.ren N, x.refs)
   | _, _ => bnd (giveUpV σ x) fun y => k (y.ren N, x.refs)
noncomputable def passK {γ : Type} (T : Tbl) (σ : Store) (N : Names) (lend : Nat → Bool) : Nat → List AV → List TypeId → (List AV × List Id → Option γ) → Option γ
 | _, [], _, k => k ([], [])
 | i, x :: r, tys, k => passOneK T σ N (lend i) x tys.head? fun a => passK T σ N lend (i + 1) r tys.tail fun q => k (a.1 :: q.1, a.2 ++ q.2)
def resEs (T : Tbl) : List TypeId → (α : Type) × (α → List AV)
 | [] => ⟨Unit, fun _ => []⟩
 | [t] => match T t with
  | some E => ⟨E.α, fun a => [E.v a]⟩
  | none => ⟨AV, fun a => [a]⟩
 | t :: r => match T t with
  | some E => ⟨E.α × (resEs T r).1, fun p => E.v p.1 :: (resEs T r).2 p.2⟩
  | none => ⟨AV × (resEs T r).1, fun p => p.1 :: (resEs T r).2 p.2⟩
def packR : List AV → AV
 | [v] => v
 | vs => .tup vs
def flatTy (P : Program) : Nat → TypeId → List TypeId
 | 0, t => [t]
 | n + 1, t => match P.underlying t with
  | some (.struct fs) => fs.toList.flatMap fun f => flatTy P n f.type
  | some (.array m e) => (List.replicate m (flatTy P n e)).flatten
  | _ => [t]
def lentRow (P : Program) (ty : TypeId) (x : AV) : List (Option TypeId) := match x with
 | .agg cs => (List.zipWith (fun c t => c.refs.map fun _ => slT P t) cs (flatTy P 6 ty)).flatten
 | x => x.refs.map fun _ => slT P ty
def lentTys (G : Cfg) (T : Hn) (lend : Nat → Bool) : Nat → List AV → List TypeId → List (Option TypeId) → List (Option TypeId)
 | _, [], _, cap => cap
 | i, x :: r, [], cap => (match x with
  | .ptr _ none 0 => [cap.headD none]
  | .ptr _ _ _ => [none]
  | .clo g _ => T.cap g
  | x => if lend i = true then x.refs.map fun _ => none else []) ++ lentTys G T lend (i + 1) r [] cap.tail
 | i, x :: r, ty :: tys, cap => (match x with
  | .ptr _ none 0 => [ptrT G.P ty]
  | .ptr _ _ _ => [none]
  | .clo g _ => T.cap g
  | x => if lend i = true then lentRow G.P ty x else []) ++ lentTys G T lend (i + 1) r tys cap
def stays (b : Blk) : Option Id := match b.cells with
 | [.own id none _ _ _] => bif b.arr then none else some id
 | _ => none
def lentEs (T : Tbl) : Store → List (Option TypeId) → (α : Type) × (α → Store)
 | [], _ => ⟨Unit, fun _ => []⟩
 | [(i, some b)], ty :: _ => match ty.bind T with
  | some E => if b.arr = true then ⟨List E.α, fun a => [(i, some { b with cells := a.flatMap E.c })]⟩ else ⟨E.α, fun a => [(i, some { b with cells := E.c a })]⟩
  | none => ⟨List AV, fun a => [(i, some { b with cells := a })]⟩
 | (i, some b) :: r, ty :: tys => match stays b with
  | some id => ⟨Nat × (lentEs T r tys).1, fun p => (i, some { b with cells := [.own id none 0 p.1 p.1] }) :: (lentEs T r tys).2 p.2⟩
  | none => match ty.bind T with
  | some E => if b.arr = true then ⟨List E.α × (lentEs T r tys).1, fun p => (i, some { b with cells := p.1.flatMap E.c }) :: (lentEs T r tys).2 p.2⟩
   else ⟨E.α × (lentEs T r tys).1, fun p => (i, some { b with cells := E.c p.1 }) :: (lentEs T r tys).2 p.2⟩
  | none => ⟨List AV × (lentEs T r tys).1, fun p => (i, some { b with cells := p.1 }) :: (lentEs T r tys).2 p.2⟩
 | _, _ => ⟨Store, fun a => a⟩
noncomputable def gdA {γ : Type} (cs : List AV) (k : Option γ) : Option γ := if AV.immL cs = true then none else k
def rowsIn (σ1 : Store) : Names → List (List AV)
 | [] => []
 | (l, _) :: r => match σ1.get? l with
  | some b => bif b.arr then b.cells :: rowsIn σ1 r else rowsIn σ1 r
  | none => rowsIn σ1 r
def boxImm (σ1 : Store) : Names → Bool
 | [] => false
 | (l, _) :: r => (match σ1.get? l with
  | some b => bif b.arr then false else AV.immL b.cells
  | none => false) || boxImm σ1 r
noncomputable def gdL {γ : Type} : List (List AV) → Option γ → Option γ
 | [], k => k
 | c :: r, k => gdA c (gdL r k)
def callBack2 (σ : Store) (t : Nat) (N : Names) (frozen : List Id) (q : AV × Store) (B : Names) : Option Eff :=
 if (q.1.imm || boxImm q.2 B) = true then none else
 if B.ok = false then none else
 (addNew (frAll σ N) (backLent σ q.2 B N) q.2 B (B.drop N.length)).map fun σ3 =>
  { val := q.1.ren B, σ := σ3, rd := frozen, wr := N.map (·.1) ++ (B.drop N.length).map (·.2) }
def goneS : Store → Store
 | [] => []
 | (i, _) :: r => (i, none) :: goneS r
noncomputable def cl {α γ : Type} (enc : α → R) (C : Oracle) (f : FuncId) (args : List AV) (σ : Store) (k : α → Option γ) : Option γ := cast enc (C f args σ) k
noncomputable def cl2 {α β γ : Type} (enc : α → R) (enc' : β → R) (C : Oracle) (f : FuncId) (args : List AV) (σ : Store) (k : α → Option γ) (k' : β → Option γ) : Option γ :=
 bnd (C f args σ) fun y => match dec enc y with
  | some a => k a
  | none => bnd (dec enc' y) k'
noncomputable def callK {γ : Type} (σ : Store) (g : FuncId) (args : List AV) (t : Nat) (k : Eff → Option γ) : Option γ :=
 match G.P.funcs[g]? with
 | none => none
 | some fn =>
  let tys := fn.params.toList
  let N := (collect σ .l (lentRefs (G.lend g) 0 args) []).2
  if N.ok = false then none else
  passK T.t σ N (G.lend g) 0 args tys fun p =>
   if p.2.any fun i => (N.to i).isSome then none else
    let k' : R → Option γ := fun q => match G.hint g 1000001, p.2, G.hint g 1000003 with
     | _ :: _, _ :: _, [] => gdL (rowsIn q.2 (backNames q.2 t N q.1)) (bnd (callBack2 σ t N p.2 q (backNames q.2 t N q.1)) fun e => k { e with rd := lentRefs (G.lend g) 0 args ++ (boxRefs σ N ++ e.rd) })
     | _, _, _ => bnd (callBack (!(G.hint g 1000003).isEmpty) σ t N p.2 q (backNames q.2 t N q.1)) fun e => k { e with rd := lentRefs (G.lend g) 0 args ++ (boxRefs σ N ++ e.rd) }
    if G.keep g = true then
     (let σ1 := lendS (σ.ren N N)
     match T.kept g p.1, σ1 with
     | [E], [] => cl (fun a => (E.v a, E.s a)) C g p.1 [] fun a => k' (E.v a, E.s a)
     | [E], σ1 => match G.hint g 1000003 with
      | [] => cl (fun a : E.α × (lentEs T.t σ1 (lentTys G T (G.lend g) 0 args tys (T.cap g))).1 => (E.v a.1, (lentEs T.t σ1 (lentTys G T (G.lend g) 0 args tys (T.cap g))).2 a.2 ++ E.s a.1)) C g p.1 σ1
       fun a => k' (E.v a.1, (lentEs T.t σ1 (lentTys G T (G.lend g) 0 args tys (T.cap g))).2 a.2 ++ E.s a.1)
      | _ :: _ => cl (fun a => (E.v a, goneS σ1 ++ lendS (E.s a))) C g p.1 σ1 fun a => k' (E.v a, goneS σ1 ++ lendS (E.s a))
     | [E, F], σ1 => cl2 (fun a : E.α × (lentEs T.t σ1 (lentTys G T (G.lend g) 0 args tys (T.cap g))).1 => (E.v a.1, (lentEs T.t σ1 (lentTys G T (G.lend g) 0 args tys (T.cap g))).2 a.2 ++ E.s a.1))
       (fun a : F.α × (lentEs T.t σ1 (lentTys G T (G.lend g) 0 args tys (T.cap g))).1 => (F.v a.1, (lentEs T.t σ1 (lentTys G T (G.lend g) 0 args tys (T.cap g))).2 a.2 ++ F.s a.1)) C g p.1 σ1
       (fun a => k' (E.v a.1, (lentEs T.t σ1 (lentTys G T (G.lend g) 0 args tys (T.cap g))).2 a.2 ++ E.s a.1)) (fun a => k' (F.v a.1, (lentEs T.t σ1 (lentTys G T (G.lend g) 0 args tys (T.cap g))).2 a.2 ++ F.s a.1))
     | _, σ1 => bnd (C g p.1 σ1) k')
    else match lendS (σ.ren N N) with
     | [] => cl (fun a => (packR ((resEs T.t fn.resultTypes.toList).2 a), [])) C g p.1 [] fun a => k' (packR ((resEs T.t fn.resultTypes.toList).2 a), [])
     | σ1 => match fn.resultTypes.toList with
      | [] => cl (fun a => (.tup [], (lentEs T.t σ1 (lentTys G T (G.lend g) 0 args tys (T.cap g))).2 a)) C g p.1 σ1 fun a => k' (.tup [], (lentEs T.t σ1 (lentTys G T (G.lend g) 0 args tys (T.cap g))).2 a)
      | rts => cl (fun a : (resEs T.t rts).1 × (lentEs T.t σ1 (lentTys G T (G.lend g) 0 args tys (T.cap g))).1 => (packR ((resEs T.t rts).2 a.1), (lentEs T.t σ1 (lentTys G T (G.lend g) 0 args tys (T.cap g))).2 a.2)) C g p.1 σ1
        fun a => k' (packR ((resEs T.t rts).2 a.1), (lentEs T.t σ1 (lentTys G T (G.lend g) 0 args tys (T.cap g))).2 a.2)
noncomputable def opK {γ : Type} (ts : List AV) (σ : Store) (o : Oper) (k : Eff → Option γ) : Option γ :=
 let e := evOpd G ts
 match o.op with
 | .call c => match c.callee with
  | .value x => match e x with
   | .clo g caps => match G.P.funcs[g]? with
    | some fn => if fn.body.isNone then none else bif T.no g then none else callK G T C σ g (c.args.toList.map e ++ caps) (o.dst.getD 0) k
    | none => none
   | _ => none
  | .builtin .append => match c.argTypes[0]?, c.argTypes[1]?, c.args.toList.map e with
   | some ty, some tx, [s, x] => match G.P.underlying tx with
    | some (.int _) => none
    | some _ => knK G x fun x => appendK G T f ty σ s x (o.dst.getD 0) k
    | none => none
   | _, _, _ => none
  | .builtin b => bnd (evBuiltin G σ b c.argTypes (c.args.toList.map e) (o.dst.getD 0)) k
  | _ => none
 | .indexAddr ty x i => knK G (e x) fun x => idxK G T ty σ x (e i) k
 | .index ty x i => ixvK G T ty o.type σ (e x) (e i) k
 | .load ty a => loadK G T ty σ (e a) k
 | .store ty a x => storeK G T f ty σ (e a) (e x) k
 | .slice ty x lo hi mx => knK G (e x) fun x => sliceK G T ty σ x (lo.map e) (hi.map e) (mx.map e) k
 | .makeSlice ty l m => makeK G T f ty σ o.dst (e l) (e m) k
 | .buildSlice ty len parts => bsK G T f ty σ o.dst len (parts.toList.map fun p => (p.1, e p.2)) k
 | .convert src dst x => knK G (e x) fun x => convK G src dst σ x k
 | .binOp op ty x y _ => (match isNilC y, e x with
  | true, .sl (m + 1) _ _ => bnd (evNil G.P op ty m) fun v => k { val := v, σ }
  | _, x => binK G op ty o.type σ x (e y) k)
 | op => bnd (evOp1 G (G.inl f) e σ o.dst op) k
def spine {α γ : Type} : List α → (List α → γ) → γ
 | [], k => k []
 | a :: r, k => spine r fun r' => k (a :: r')
def forceV {γ : Type} (v : AV) (k : AV → γ) : γ := match v with
 | .sc (.int kd n) => k (.sc (.int kd n))
 | .sc (.bool b) => k (.sc (.bool b))
 | .sc (.string s) => k (.sc (.string s))
 | .sc c => k (.sc c)
 | .sl e n xs => k (.sl e n xs)
 | .nst e n xs => k (.nst e n xs)
 | .emp => k .emp
 | .own id sub off n cap => k (.own id sub off n cap)
 | .ptr id sub off => k (.ptr id sub off)
 | .iptr xs => k (.iptr xs)
 | .agg cs => k (.agg cs)
 | .tup vs => spine vs fun vs => k (.tup vs)
 | .clo f cs => spine cs fun cs => k (.clo f cs)
 | .junk => k .junk
def forceL {γ : Type} : List AV → (List AV → γ) → γ
 | [], k => k []
 | a :: r, k => forceV a fun a' => forceL r fun r' => k (a' :: r')
def forceB {γ : Type} (b : Option Blk) (k : Option Blk → γ) : γ := match b with
 | some ⟨a, f, n, e, cs⟩ => k (some ⟨a, f, n, e, cs⟩)
 | none => k none
def forceS {γ : Type} : Store → (Store → γ) → γ
 | [], k => k []
 | (i, b) :: r, k => forceB b fun b' => forceS r fun r' => k ((i, b') :: r')
def guardK {γ : Type} (ops : List Oper) (ts : List AV) (o : Oper) (yes no : List AV → Option γ) : Option γ :=
 match o.guard with
 | none => yes ts
 | some (j, want) => match (ops[j]?).bind (·.dst) with
  | none => none
  | some d => match ts.getD d undefA with
   | .sc (.bool b) => match want with
    | true => if b = true then spine (ts.set d (.sc (.bool true))) yes else spine (ts.set d (.sc (.bool false))) no
    | false => if b = true then spine (ts.set d (.sc (.bool true))) no else spine (ts.set d (.sc (.bool false))) yes
   | .sc (.tuple _) => no ts
   | _ => none
noncomputable def opsK {γ : Type} (ops : List Oper) : List Oper → List AV → Store → (List AV → Store → Option γ) → Option γ
 | [], ts, σ, k => k ts σ
 | o :: r, ts, σ, k => guardK ops ts o
   (fun ts => opK G T C f ts σ o fun e => match e with
    | ⟨v, σ', _, _⟩ => forceV v fun v => forceS σ' fun σ' => spine (putT ts o.dst v) fun ts' => opsK ops r ts' σ' k)
   (fun ts => spine (putT ts o.dst undefA) fun ts' => opsK ops r ts' σ k)
noncomputable def ordK {γ : Type} (ops : Array Oper) : List Nat → List (Nat × List Id × List Id) → List AV → Store → (List AV → Store → Option γ) → Option γ
 | [], _, ts, σ, k => k ts σ
 | i :: p, Ws, ts, σ, k => match ops[i]? with
  | none => none
  | some o => guardK ops.toList ts o
   (fun ts => opK G T C f ts σ o fun e => match e with
    | ⟨v, σ', rd, wr⟩ => spine rd fun rd => spine wr fun wr => if apartW ops i rd wr Ws = true then forceV v fun v => forceS σ' fun σ' => spine (putT ts o.dst v) fun ts' => ordK ops p ((i, rd, wr) :: Ws) ts' σ' k else none)
   (fun ts => if apartW ops i [] [] Ws = true then spine (putT ts o.dst undefA) fun ts' => ordK ops p ((i, [], []) :: Ws) ts' σ k else none)
noncomputable def regK {γ : Type} (ops : Array Oper) (draw : Bool) (ts : List AV) (σ : Store) (k : List AV → Store → Option γ) : Option γ :=
 if draw = true then bnd (ordOf ops ops.size (Array.replicate ops.size false)) fun p => spine p fun p => ordK G T C f ops p [] ts σ k
 else opsK G T C f ops.toList ops.toList ts σ k
abbrev Kont := Ex → List AV → Store → Option R
noncomputable def lp (L : LoopOracle) (f : FuncId) (b : Code) (ts : List AV) (σ : Store) (k : Kont) : Option R := bnd (L f b ⟨ts, σ⟩) fun p => k p.1 p.2.ts p.2.σ
def blockK (id : Nat) (k : Kont) : Kont := fun e ts σ => match e with
 | .exit i => if i = id then k .normal ts σ else k (.exit i) ts σ
 | .normal => k .normal ts σ
 | .ret => k .ret ts σ
def andThen (kn : List AV → Store → Option R) (k : Kont) : Kont := fun e ts σ => match e with
 | .normal => kn ts σ
 | .exit i => k (.exit i) ts σ
 | .ret => k .ret ts σ
noncomputable def headK (b : Code) (k : Kont) (ts : List AV) (σ : Store) : Option R :=
 bnd (head (G.hint f (firstRegion b)) ⟨ts, σ⟩) fun s => match s with
  | ⟨ts', σ'⟩ => forceL ts' fun ts' => forceS σ' fun σ' => lp L f b ts' σ' k
noncomputable def loopK (b : Code) (k : Kont) : Kont := andThen (headK G L f b k) k
noncomputable def cps : Code → Kont → List AV → Store → Option R
 | .skip, k, ts, σ => k .normal ts σ
 | .label _, k, ts, σ => k .normal ts σ
 | .region _ ops draw, k, ts, σ => regK G T C f ops draw ts σ (k .normal)
 | .seq a b, k, ts, σ => cps a (andThen (cps b k) k) ts σ
 | .cond c x y, k, ts, σ => match evOpd G ts c with
  | .sc (.bool b) => if b = true then cps x k ts σ else cps y k ts σ
  | _ => none
 | .block id b, k, ts, σ => cps b (blockK id k) ts σ
 | .loop b, k, ts, σ => headK G L f b k ts σ
 | .scope b, k, ts, σ => cps b k ts σ
 | .exit id, k, ts, σ => k (.exit id) ts σ
 | .ret, k, ts, σ => k .ret ts σ
 | _, _, _, _ => none
noncomputable def ctxK : Code → List Nat → Kont → Kont
 | .seq a b, 0 :: p, k => ctxK a p (andThen (cps G T C L f b k) k)
 | .seq _ b, _ :: p, k => ctxK b p k
 | .cond _ a _, 0 :: p, k => ctxK a p k
 | .cond _ _ b, _ :: p, k => ctxK b p k
 | .block id b, _ :: p, k => ctxK b p (blockK id k)
 | .scope b, _ :: p, k => ctxK b p k
 | .loop b, _ :: p, k => ctxK b p (loopK G L f b k)
 | _, _, k => k
def loopAt : Code → List Nat → Code
 | .seq a _, 0 :: p => loopAt a p
 | .seq _ b, _ :: p => loopAt b p
 | .cond _ a _, 0 :: p => loopAt a p
 | .cond _ _ b, _ :: p => loopAt b p
 | .block _ b, _ :: p => loopAt b p
 | .scope b, _ :: p => loopAt b p
 | .loop b, _ :: p => loopAt b p
 | .loop b, [] => b
 | _, _ => .skip
noncomputable def finK (fn : Func) : Kont := fun e ts σ => match e with
 | .exit _ => none
 | _ => bnd (fn.results.toList.mapM (resA G ts σ)) fun vs =>
  let v := packR vs
  if G.keep f = true then leaveK (matT (G.hint f 1000000) v σ) else
   let N := lentNames σ
   if (N.ok && (v.refs).all fun i => match i with | .l _ => false | _ => ((σ.get? i).map (·.fr)).getD false) = true then
    match v.refs with
    | [] => bnd (giveUpT σ v) fun v' => some (v'.ren N, σ.ren N N)
    | _ => cast (fun a => packR ((resEs T.t fn.resultTypes.toList).2 a)) (giveUpT σ v) fun a => some ((packR ((resEs T.t fn.resultTypes.toList).2 a)).ren N, σ.ren N N)
   else none
end
noncomputable def funK0 (G : Cfg) (T : Hn) (f : FuncId) (fn : Func) (args : List AV) (σ : Store) : Option R :=
 match fn.body with
 | some c => cps G T (call G) (loop G) f c (finK G T f fn) (args ++ List.replicate (fn.ntmps - args.length) undefA) σ
 | none => none
noncomputable def funK (G : Cfg) (T : Hn) (f : FuncId) (fn : Func) (args : List AV) (σ : Store) : Option R :=
 match G.hint f 1000002, G.ext f args with
 | [], none => funK0 G T f fn args σ
 | _, _ => none
def slN {α : Type} (c : α → List AV) (l : List α) : AV := .sl 2 l.length (l.flatMap c)
noncomputable def lpK (G : Cfg) (T : Hn) (f : FuncId) (fn : Func) (p : List Nat) (ts : List AV) (σ : Store) : Option R :=
 match fn.body with
 | some c => lp (loop G) f (loopAt c p) ts σ (ctxK G T (call G) (loop G) f c p (finK G T f fn))
 | none => none
noncomputable def rdK (G : Cfg) (T : Hn) (f : FuncId) (fn : Func) (p : List Nat) (ts : List AV) (σ : Store) : Option R :=
 match fn.body with
 | some c => cps G T (call G) (loop G) f (loopAt c p) (loopK G (loop G) f (loopAt c p) (ctxK G T (call G) (loop G) f c p (finK G T f fn))) ts σ
 | none => none
end Go.Ev
namespace Go.Ev
open Go
section
variable {α β γ : Type}
theorem bnd_some_iff {r : Option α} {k : α → Option β} {x : β} : bnd r k = some x ↔ ∃ a, r = some a ∧ k a = some x := by unfold bnd; exact Option.bind_eq_some_iff
theorem bnd_some (a : α) (k : α → Option β) : bnd (some a) k = k a := rfl
theorem dec_enc {enc : α → β} {y : β} {a : α} (h : dec enc y = some a) : enc a = y := by
 unfold dec at h
 split at h
 ·rename_i hx
  cases h
  exact hx.choose_spec
 ·cases h
theorem dec_of {enc : α → β} (hi : ∀ a b, enc a = enc b → a = b) (a : α) : dec enc (enc a) = some a := by
 unfold dec
 have hx : ∃ b, enc b = enc a := ⟨a, rfl⟩
 rw [dif_pos hx]
 exact congrArg some (hi _ _ hx.choose_spec)
theorem cast_le {enc : α → β} {r : Option β} {k : β → Option γ} : OLe (cast enc r fun a => k (enc a)) (bnd r k) := by
 intro x h
 unfold cast at h
 obtain ⟨y, hy, h⟩ := bnd_some_iff.1 h
 obtain ⟨a, ha, h⟩ := bnd_some_iff.1 h
 rw [dec_enc ha] at h
 exact bnd_some_iff.2 ⟨y, hy, h⟩
theorem cast_inv {enc : α → β} {r : Option β} {k : α → Option γ} {x : γ} (h : cast enc r k = some x) : ∃ a, r = some (enc a) ∧ k a = some x := by
 unfold cast at h
 obtain ⟨y, hy, h⟩ := bnd_some_iff.1 h
 obtain ⟨a, ha, h⟩ := bnd_some_iff.1 h
 exact ⟨a, by rw [hy, dec_enc ha], h⟩
theorem cast_of {enc : α → β} (hi : ∀ a b, enc a = enc b → a = b) {r : Option β} {a : α} (hr : r = some (enc a)) (k : α → Option γ) : cast enc r k = k a := by
 unfold cast
 rw [hr, bnd_some, dec_of hi, bnd_some]
theorem castS_le {P : Program} {ty : TypeId} {v : AV} {k : AV → Option γ} : OLe (castS P ty v k) (k v) := by
 intro x h
 unfold castS at h
 split at h
 ·obtain ⟨n, hn, h'⟩ := bnd_some_iff.1 h
  unfold asInt at hn
  split at hn
  ·split at hn
   ·rename_i hk
    cases hn
    subst hk
    exact h'
   ·cases hn
  ·cases hn
 ·obtain ⟨n, hn, h⟩ := bnd_some_iff.1 h
  unfold asBool at hn
  split at hn
  ·cases hn; exact h
  ·cases hn
 ·obtain ⟨n, hn, h⟩ := bnd_some_iff.1 h
  unfold asStr at hn
  split at hn
  ·cases hn; exact h
  ·cases hn
 ·exact h
theorem castT_le {T : Tbl} {ty : TypeId} {r : Option AV} {k : AV → Option γ} : OLe (castT T ty r k) (bnd r k) := by
 intro x h
 unfold castT at h
 split at h
 ·exact cast_le _ h
 ·exact h
theorem spine_eq : ∀ (l : List α) (k : List α → β), spine l k = k l
 | [], _ => rfl
 | a :: r, k => by simp only [spine, spine_eq r]
theorem forceV_eq (v : AV) (k : AV → β) : forceV v k = k v := by
 cases v <;> simp only [forceV, spine_eq]
 rename_i c
 cases c <;> rfl
theorem forceL_eq : ∀ (l : List AV) (k : List AV → β), forceL l k = k l
 | [], _ => rfl
 | a :: r, k => by simp only [forceL, forceV_eq, forceL_eq r]
theorem forceB_eq (b : Option Blk) (k : Option Blk → β) : forceB b k = k b := by cases b <;> rfl
theorem forceS_eq : ∀ (l : Store) (k : Store → β), forceS l k = k l
 | [], _ => rfl
 | (i, b) :: r, k => by simp only [forceS, forceB_eq, forceS_eq r]
end
section
variable {G : Cfg} {T : Hn} {C : Oracle} {L : LoopOracle} {f : FuncId} {γ : Type}
theorem pure_bnd {σ : Store} {r : Option AV} {k : Eff → Option γ} : OLe (bnd r fun v => k { val := v, σ }) (bnd (pure_ σ r) k) := by
 intro x h
 obtain ⟨v, rfl, h⟩ := bnd_some_iff.1 h
 exact h
theorem map_bnd {r : Option AV} {g : AV → Eff} {k : Eff → Option γ} : OLe (bnd r fun v => k (g v)) (bnd (r.map g) k) := by
 intro x h
 obtain ⟨v, rfl, h⟩ := bnd_some_iff.1 h
 exact h
theorem knK_le {x : AV} {k : AV → Option γ} : OLe (knK G x k) (k (knV G x)) := by
 intro y h
 unfold knK at h
 split at h
 ·unfold knA at h
  obtain ⟨l, hl, h⟩ := cast_inv h
  simp only [knV, hl]
  exact h
 ·rename_i hne
  unfold knV
  split
  ·exact absurd rfl (hne _ _ _)
  ·exact h
theorem pick_inv {i : Int} {f : Nat → Option γ} {y : γ} : ∀ (l : List (Int × Nat)), ∀ (_ : pick i f l = some y), ∃ j, (i, j) ∈ l ∧ f j = some y
 | [], h => by cases h
 | (a, j) :: r, h => by
  unfold pick at h
  split at h
  ·rename_i e
   subst e
   exact ⟨j, by simp, h⟩
  ·obtain ⟨j', h1, h2⟩ := pick_inv r h
   exact ⟨j', by simp [h1], h2⟩
theorem picks_all : ∀ p ∈ picks, p.1 = (p.2 : Int) := by decide
theorem picks_at : ∀ i : Fin 12, picks[i.val]? = some ((i.val : Int), i.val) := by decide
theorem picks_mem {n : Nat} {i : Int} {j : Nat} (h : (i, j) ∈ picks.take n) : i = (j : Int) ∧ j < n := by
 obtain ⟨k, hk⟩ := List.getElem?_of_mem h
 rw [List.getElem?_take] at hk
 split at hk
 ·rename_i hkn
  have hk12 : k < 12 := by
   have := (List.getElem?_eq_some_iff.1 hk).1
   simpa [picks] using this
  have := picks_at ⟨k, hk12⟩
  rw [hk] at this
  simp only [Option.some.injEq, Prod.mk.injEq] at this
  omega
 ·cases hk
theorem idxK_le {ty : TypeId} {σ : Store} {x i : AV} {k : Eff → Option γ} : OLe (idxK G T ty σ x i k) (bnd (pure_ σ (evIndexAddr G.P ty x i)) k) := by
 intro y h
 refine pure_bnd _ ?_
 unfold idxK at h
 split at h
 ·split at h
  ·exact cast_le (enc := fun j => AV.ptr _ _ (j * _)) (k := fun v => k { val := v, σ }) _ h
  ·cases h
 ·split at h
  ·rename_i ha
   split at h
   ·exact cast_le (enc := fun j => AV.ptr _ _ (_ + j * _)) (k := fun v => k { val := v, σ }) _ h
   ·split at h
    ·obtain ⟨a, hm, hk⟩ := pick_inv _ h
     obtain ⟨p, hp, h2⟩ := Option.bind_eq_some_iff.1 ha
     obtain ⟨s', hs, h2⟩ := Option.map_eq_some_iff.1 h2
     simp only [Prod.mk.injEq] at h2
     obtain ⟨rfl, rfl⟩ := h2
     have hj := picks_mem hm
     refine bnd_some_iff.2 ⟨_, ?_, hk⟩
     unfold evIndexAddr
     rw [hj.1]
     simp only [hp, hs]
     rw [if_neg (by omega), if_pos (by omega)]
     simp
    ·cases h
  ·cases h
 ·split at h
  ·exact cast_le (enc := fun a => AV.iptr _) (k := fun v => k { val := v, σ }) _ h
  ·exact h
theorem ixvK_le {ty rt : TypeId} {σ : Store} {x i : AV} {k : Eff → Option γ} : OLe (ixvK G T ty rt σ x i k) (bnd (pure_ σ (evIndex G.P ty x i)) k) := by
 intro y h
 refine pure_bnd _ ?_
 unfold ixvK at h
 split at h
 ·exact cast_le (enc := fun b : UInt8 => AV.sc (.int .u8 b.toNat)) (k := fun v => k { val := v, σ }) _ h
 ·exact castT_le (k := fun v => k { val := v, σ }) _ h
theorem loadR_le {ty : TypeId} {σ : Store} {a : AV} {k : Eff → Option γ} : OLe (loadR G T ty σ a k) (bnd (loadA G σ ty a) fun v => k { val := v, σ, rd := a.refs }) := by
 intro y h
 unfold loadR at h
 exact castT_le (k := fun v => k { val := v, σ, rd := a.refs }) _ h
theorem loadK_le {ty : TypeId} {σ : Store} {a : AV} {k : Eff → Option γ} : OLe (loadK G T ty σ a k) (bnd ((loadA G σ ty a).map fun v => { val := v, σ, rd := a.refs }) k) := by
 intro y h
 refine map_bnd _ ?_
 unfold loadK at h
 split at h
 ·split at h
  ·split at h
   ·split at h
    ·unfold ldN at h
     exact cast_le (k := fun v => k { val := v, σ, rd := AV.refs _ }) _ h
    ·exact loadR_le _ h
   ·exact loadR_le _ h
  ·exact loadR_le _ h
 ·obtain ⟨v, hv, h⟩ := bnd_some_iff.1 h
  exact bnd_some_iff.2 ⟨v, hv, castS_le (k := fun v => k { val := v, σ, rd := a.refs }) _ h⟩
theorem storeK_le {ty : TypeId} {σ : Store} {a x : AV} {k : Eff → Option γ} : OLe (storeK G T f ty σ a x k) (bnd (storeA G σ ty a x) k) := by
 intro y h
 unfold storeK at h
 split at h
 ·split at h
  ·split at h
   ·split at h
    ·split at h
     ·unfold stA at h
      exact cast_le _ h
     ·unfold cond at h
      split at h
      ·split at h
       ·unfold stX at h
        exact cast_le _ h
       ·exact h
      ·unfold stX at h
       exact cast_le _ h
    ·exact h
   ·exact h
  ·cases h
 ·exact h
theorem sliceK0_le {ty : TypeId} {σ : Store} {x : AV} {lo hi mx : Option AV} {k : Eff → Option γ} : OLe (sliceK0 G T ty σ x lo hi mx k) (bnd ((evSlice G.P σ ty x lo hi mx).map fun v => { val := v, σ, rd := x.refs }) k) := by
 intro y h
 refine map_bnd _ ?_
 unfold sliceK0 at h
 split at h
 ·obtain ⟨v, hv, h⟩ := bnd_some_iff.1 h
  obtain ⟨s, hs, h⟩ := bnd_some_iff.1 h
  refine bnd_some_iff.2 ⟨v, hv, ?_⟩
  unfold asStr at hs
  split at hs
  ·cases hs; exact h
  ·cases hs
 ·obtain ⟨v, hv, h⟩ := bnd_some_iff.1 h
  exact bnd_some_iff.2 ⟨v, hv, castT_le (r := some v) (k := fun v => k { val := v, σ, rd := [] }) _ h⟩
 ·split at h
  ·exact cast_le (enc := fun p : Nat × Nat => AV.own _ _ _ p.1 p.2) (k := fun v => k { val := v, σ, rd := [_] }) _ h
  ·split at h
   ·exact cast_le (enc := fun p : Nat × Nat × Nat => AV.own _ _ (p.1 * _) p.2.1 p.2.2) (k := fun v => k { val := v, σ, rd := [_] }) _ h
   ·cases h
 ·exact castT_le (k := fun v => k { val := v, σ, rd := AV.refs _ }) _ h
theorem sliceK_le {ty : TypeId} {σ : Store} {x : AV} {lo hi mx : Option AV} {k : Eff → Option γ} : OLe (sliceK G T ty σ x lo hi mx k) (bnd ((evSlice G.P σ ty x lo hi mx).map fun v => { val := v, σ, rd := x.refs }) k) := by
 intro y h
 unfold sliceK at h
 split at h
 ·exact sliceK0_le _ h
 ·split at h
  ·refine map_bnd _ ?_
   unfold emA at h
   obtain ⟨u, hu, h⟩ := cast_inv h
   exact bnd_some_iff.2 ⟨_, hu, h⟩
  ·refine map_bnd _ ?_
   unfold emA at h
   obtain ⟨u, hu, h⟩ := cast_inv h
   exact bnd_some_iff.2 ⟨_, hu, h⟩
  ·exact sliceK0_le _ h
theorem makeK_le {ty : TypeId} {σ : Store} {dst : Option Tmp} {l m : AV} {k : Eff → Option γ} : OLe (makeK G T f ty σ dst l m k) (bnd (evMakeSlice G (G.inl f) σ dst ty l m) k) := by
 intro y h
 unfold makeK at h
 split at h
 ·split at h
  ·unfold mkA at h
   exact cast_le _ h
  ·exact h
 ·cases h
theorem appendK_le {ty : TypeId} {σ : Store} {s x : AV} {t : Nat} {k : Eff → Option γ} : OLe (appendK G T f ty σ s x t k) (bnd (evAppend G σ ty s x t) k) := by
 intro y h
 unfold appendK at h
 split at h
 ·split at h
  ·split at h
   ·unfold apY at h
    exact cast_le _ h
   ·unfold apN at h
    exact cast_le _ h
  ·split at h
   ·split at h
    ·unfold apX at h
     exact cast_le _ h
    ·unfold apR at h
     exact cast_le _ h
   ·cases h
  ·exact h
 ·exact h
theorem bsK_le {ty : TypeId} {σ : Store} {dst : Option Tmp} {len : Nat} {parts : List (Nat × AV)} {k : Eff → Option γ} : OLe (bsK G T f ty σ dst len parts k) (bnd (evBuildSlice G (G.inl f) σ dst ty len parts) k) := by
 intro y h
 unfold bsK at h
 split at h
 ·exact h
 ·split at h
  ·unfold bsA at h
   exact cast_le _ h
  ·exact h
theorem convK_le {src dst : TypeId} {σ : Store} {x : AV} {k : Eff → Option γ} : OLe (convK G src dst σ x k) (bnd (evConv G.P σ src dst x) k) := by
 intro y h
 unfold convK at h
 split at h
 ·exact h
 ·exact cast_le (enc := fun s => ({ val := .sc (.string s), σ, rd := AV.refs _ } : Eff)) _ h
theorem binK_le {op : BinOp} {ty rt : TypeId} {σ : Store} {x y : AV} {k : Eff → Option γ} : OLe (binK G op ty rt σ x y k) (bnd (pure_ σ (evBinOp G.P op ty x y)) k) := by
 intro z h
 refine pure_bnd _ ?_
 unfold binK at h
 split at h
 ·split at h
  ·rename_i hk
   subst hk
   split at h
   ·cases h
   ·rename_i hb
    refine bnd_some_iff.2 ⟨_, ?_, h⟩
    simp only [evBinOp, evBin, if_true, intBin]
    rw [if_neg hb]
    rfl
  ·cases h
 ·split at h
  ·rename_i hk
   subst hk
   split at h
   ·cases h
   ·rename_i hb
    refine bnd_some_iff.2 ⟨_, ?_, h⟩
    simp only [evBinOp, evBin, if_true, intBin]
    rw [if_neg hb]
    rfl
  ·cases h
 ·split at h
  ·rename_i hb
   refine bnd_some_iff.2 ⟨_, ?_, h⟩
   simp only [evBinOp, evBin, cmpStr]
   rw [if_pos hb]
   rfl
  ·cases h
 ·obtain ⟨v, hv, h⟩ := bnd_some_iff.1 h
  exact bnd_some_iff.2 ⟨v, hv, castS_le (k := fun v => k { val := v, σ }) _ h⟩
theorem passOneK_le {σ : Store} {N : Names} {l : Bool} {x : AV} {ty : Option TypeId} {k : AV × List Id → Option γ} : OLe (passOneK T.t σ N l x ty k) (bnd (passOne σ N l x) k) := by
 intro y h
 unfold passOneK at h
 split at h
 ·exact h
 ·exact h
 ·rename_i h1 h2
  have hone : passOne σ N l x = if l = true then some (x.ren N, []) else (giveUpV σ x).map fun w => (w.ren N, x.refs) := by
   cases x <;> first | rfl | exact absurd rfl (h1 _ _ _) | exact absurd rfl (h2 _ _)
  rw [hone]
  split at h
  ·rename_i hl
   rw [if_pos hl]
   exact h
  ·rename_i hl
   rw [if_neg hl]
   split at h
   ·obtain ⟨w, hw, h'⟩ := bnd_some_iff.1 (castT_le (k := fun y => k (y.ren N, x.refs)) _ h)
    exact bnd_some_iff.2 ⟨(w.ren N, x.refs), by rw [hw]; rfl, h'⟩
   ·obtain ⟨w, hw, h'⟩ := bnd_some_iff.1 h
    exact bnd_some_iff.2 ⟨(w.ren N, x.refs), by rw [hw]; rfl, h'⟩
theorem passK_le {σ : Store} {N : Names} {lend : Nat → Bool} : ∀ (i : Nat) (args : List AV) (tys : List TypeId) {k : List AV × List Id → Option γ}, OLe (passK T.t σ N lend i args tys k) (bnd (passAll σ N lend i args) k)
 | i, [], _, k => fun y h => h
 | i, x :: r, tys, k => by
  intro y h
  simp only [passK] at h
  obtain ⟨q, hq, h1⟩ := bnd_some_iff.1 (passOneK_le _ h)
  obtain ⟨p, hp, hk⟩ := bnd_some_iff.1 (passK_le (i + 1) r tys.tail _ h1)
  refine bnd_some_iff.2 ⟨(q.1 :: p.1, q.2 ++ p.2), ?_, hk⟩
  simp only [passAll, hq, hp, Option.bind_some]
theorem gdL_inv {γ : Type} : ∀ {cs : List (List AV)} {k : Option γ} {y : γ}, gdL cs k = some y → (∀ c, c ∈ cs → AV.immL c = false) ∧ k = some y
 | [], _, _, h => ⟨fun _ h => (by cases h), h⟩
 | c :: r, k, y, h => by
  simp only [gdL, gdA] at h
  split at h
  ·cases h
  ·rename_i hc
   obtain ⟨h1, h2⟩ := gdL_inv h
   refine ⟨fun c' hc' => ?_, h2⟩
   rcases List.mem_cons.1 hc' with rfl | h'
   ·simpa using hc
   ·exact h1 c' h'
theorem immIn_of {σ1 : Store} : ∀ {B : Names}, (∀ c, c ∈ rowsIn σ1 B → AV.immL c = false) → immIn σ1 B = boxImm σ1 B
 | [], _ => rfl
 | (l, j) :: r, h => by
  unfold rowsIn at h
  simp only [immIn, boxImm]
  cases hg : σ1.get? l with
  | none =>
   rw [hg] at h
   rw [immIn_of h]
  | some b =>
   rw [hg] at h
   simp only at h ⊢
   cases hb : b.arr with
   | false =>
    rw [hb] at h
    rw [immIn_of h]
    rfl
   | true =>
    rw [hb] at h
    simp only [cond_true, List.mem_cons] at h
    rw [immIn_of fun c hc => h c (.inr hc), h b.cells (.inl rfl)]
    rfl
theorem callBack2_le {σ : Store} {t : Nat} {N : Names} {fz : List Id} {q : AV × Store} {B : Names} {e : Eff} (h : callBack2 σ t N fz q B = some e) (hi : immIn q.2 B = boxImm q.2 B) : callBack false σ t N fz q B = some e := by
 unfold callBack2 at h
 unfold callBack
 split at h
 ·cases h
 ·rename_i him
  split at h
  ·cases h
  ·rename_i hB
   obtain ⟨σ3, h3, rfl⟩ := Option.map_eq_some_iff.1 h
   rw [if_neg hB, h3, Option.bind_some, hi]
   have : (q.1.imm || boxImm q.2 B) = false := by simpa using him
   rw [this, Bool.or_false, Bool.and_false]
   rfl
theorem callK_le {σ : Store} {g : FuncId} {args : List AV} {t : Nat} {k : Eff → Option γ} : OLe (callK G T C σ g args t k) (bnd (callA G C σ g args t) k) := by
 intro y h
 unfold callK at h
 split at h
 ·cases h
 ·rename_i fn hfn
  dsimp only at h
  split at h
  ·cases h
  ·rename_i hN
   obtain ⟨p, hp, h⟩ := bnd_some_iff.1 (passK_le _ _ _ _ h)
   split at h
   ·cases h
   ·rename_i hany
    have fin : ∀ q, C g p.1 (lendS (σ.ren (collect σ .l (lentRefs (G.lend g) 0 args) []).2 (collect σ .l (lentRefs (G.lend g) 0 args) []).2)) = some q →
      (match G.hint g 1000001, p.2, G.hint g 1000003 with
       | _ :: _, _ :: _, [] => gdL (rowsIn q.2 (backNames q.2 t (collect σ .l (lentRefs (G.lend g) 0 args) []).2 q.1)) (bnd (callBack2 σ t (collect σ .l (lentRefs (G.lend g) 0 args) []).2 p.2 q (backNames q.2 t (collect σ .l (lentRefs (G.lend g) 0 args) []).2 q.1)) fun e => k { e with rd := lentRefs (G.lend g) 0 args ++ (boxRefs σ (collect σ .l (lentRefs (G.lend g) 0 args) []).2 ++ e.rd) })
       | _, _, _ => bnd (callBack (!(G.hint g 1000003).isEmpty) σ t (collect σ .l (lentRefs (G.lend g) 0 args) []).2 p.2 q (backNames q.2 t (collect σ .l (lentRefs (G.lend g) 0 args) []).2 q.1)) fun e => k { e with rd := lentRefs (G.lend g) 0 args ++ (boxRefs σ (collect σ .l (lentRefs (G.lend g) 0 args) []).2 ++ e.rd) }) = some y →
      bnd (callA G C σ g args t) k = some y := by
     intro q hq hh
     have hh : ∃ e, callBack (!(G.hint g 1000003).isEmpty) σ t (collect σ .l (lentRefs (G.lend g) 0 args) []).2 p.2 q (backNames q.2 t (collect σ .l (lentRefs (G.lend g) 0 args) []).2 q.1) = some e ∧ k { e with rd := lentRefs (G.lend g) 0 args ++ (boxRefs σ (collect σ .l (lentRefs (G.lend g) 0 args) []).2 ++ e.rd) } = some y := by
      split at hh
      ·rename_i h03
       obtain ⟨h1, h2⟩ := gdL_inv hh
       obtain ⟨e, he, hh⟩ := bnd_some_iff.1 h2
       refine ⟨e, ?_, hh⟩
       rw [h03]
       exact callBack2_le he (immIn_of h1)
      ·exact bnd_some_iff.1 hh
     obtain ⟨e, he, hh⟩ := hh
     refine bnd_some_iff.2 ⟨_, ?_, hh⟩
     unfold callA callIn
     rw [if_neg hN, hp, Option.bind_some, if_neg hany, hq, Option.bind_some, he]
     rfl
    split at h
    ·split at h
     ·rename_i hs
      obtain ⟨a, ha, h⟩ := cast_inv h
      exact fin _ (by rw [hs]; exact ha) h
     ·split at h
      ·obtain ⟨a, ha, h⟩ := cast_inv h
       exact fin _ ha h
      ·obtain ⟨a, ha, h⟩ := cast_inv h
       exact fin _ ha h
     ·unfold cl2 at h
      obtain ⟨q, hq, h⟩ := bnd_some_iff.1 h
      split at h
      ·rename_i a ha
       rw [← dec_enc ha] at hq
       exact fin _ hq h
      ·obtain ⟨a, ha, h⟩ := bnd_some_iff.1 h
       rw [← dec_enc ha] at hq
       exact fin _ hq h
     ·obtain ⟨q, hq, h⟩ := bnd_some_iff.1 h
      exact fin q hq h
    ·split at h
     ·rename_i hs
      obtain ⟨a, ha, h⟩ := cast_inv h
      exact fin _ (by rw [hs]; exact ha) h
     ·split at h
      ·obtain ⟨a, ha, h⟩ := cast_inv h
       exact fin _ ha h
      ·obtain ⟨a, ha, h⟩ := cast_inv h
       exact fin _ ha h
theorem opK_le {ts : List AV} {σ : Store} {o : Oper} {k : Eff → Option γ} : OLe (opK G T C f ts σ o k) (bnd (evOp G C f ts σ o) k) := by
 intro y h
 unfold opK at h
 unfold evOp
 dsimp only at h
 split at h
 ·rename_i c hc
  rw [hc]
  simp only [evCall]
  split at h
  ·rename_i x hx
   rw [hx]
   simp only
   split at h
   ·rename_i g caps he
    rw [he]
    simp only [evCallee]
    split at h
    ·rename_i fn hfn
     rw [hfn]
     simp only
     split at h
     ·cases h
     ·rename_i hb
      rw [if_neg hb]
      cases hno : T.no g with
      | true => rw [hno] at h; cases h
      | false => rw [hno] at h; exact callK_le _ h
    ·cases h
   ·cases h
  ·rename_i hx
   rw [hx]
   simp only [evBuiltin]
   split at h
   ·rename_i ty tx s x h1 h2 h3
    simp only [h1, h2, h3]
    split at h
    ·cases h
    ·rename_i u hu hne
     split
     ·rename_i k0 hk0
      rw [hne] at hk0
      cases hk0
      exact absurd rfl (hu _)
     ·exact appendK_le _ (knK_le _ h)
     ·rename_i hk0
      rw [hne] at hk0
      cases hk0
    ·cases h
   ·cases h
  ·rename_i b hx hne
   rw [hne]
   exact h
  ·cases h
 ·rename_i ho; rw [ho]; exact idxK_le _ (knK_le _ h)
 ·rename_i ho; rw [ho]; exact ixvK_le _ h
 ·rename_i ho; rw [ho]; exact loadK_le _ h
 ·rename_i ho; rw [ho]; exact storeK_le _ h
 ·rename_i ho; rw [ho]; exact sliceK_le _ (knK_le _ h)
 ·rename_i ho; rw [ho]; exact makeK_le _ h
 ·rename_i ho; rw [ho]; exact bsK_le _ h
 ·rename_i ho; rw [ho]; exact convK_le _ (knK_le _ h)
 ·rename_i ho
  rw [ho]
  split at h
  ·rename_i hn hx
   obtain ⟨v, hv, h⟩ := bnd_some_iff.1 h
   refine bnd_some_iff.2 ⟨{ val := v, σ }, ?_, h⟩
   show pure_ σ (evBinOpN _ _ _ _ _ _) = _
   unfold evBinOpN
   rw [hn, hx]
   simp only [hv]
   rfl
  ·rename_i hn
   obtain ⟨e0, he, h⟩ := bnd_some_iff.1 (binK_le _ h)
   refine bnd_some_iff.2 ⟨e0, ?_, h⟩
   show pure_ σ (evBinOpN _ _ _ _ _ _) = _
   unfold evBinOpN
   split
   ·rename_i h1 h2; exact absurd h2 (hn _ _ _ h1)
   ·exact he
 ·split
  ·exfalso
   simp_all
  ·exact h
end
end Go.Ev
namespace Go.Ev
open Go
section
variable {G : Cfg} {T : Hn} {C : Oracle} {L : LoopOracle} {f : FuncId} {γ : Type}
theorem guardK_inv {ops : List Oper} {ts : List AV} {o : Oper} {yes no : List AV → Option γ} {x : γ} (h : guardK ops ts o yes no = some x) :
  (wantedA ops ts o = some true ∧ yes ts = some x) ∨ (wantedA ops ts o = some false ∧ no ts = some x) := by
 unfold guardK at h
 unfold wantedA
 split at h
 ·rename_i hg
  simp only [hg]
  exact .inl ⟨trivial, h⟩
 ·rename_i j want hg
  simp only [hg]
  split at h
  ·cases h
  ·rename_i d hd
   simp only [hd]
   have set_same : ∀ b, ts.getD d undefA = .sc (.bool b) → ts.set d (.sc (.bool b)) = ts := fun b hb => by
    refine List.ext_getElem? fun i => ?_
    by_cases hi : d = i
    ·subst hi
     rw [List.getElem?_set_self']
     unfold List.getD at hb
     cases hx : ts[d]? with
     | none => rfl
     | some v => rw [hx] at hb; simp at hb; simp [hb]
    ·rw [List.getElem?_set_ne hi]
   split at h
   ·rename_i b hb
    simp only [hb]
    cases want
    ·cases b
     ·have := set_same false hb
      simp only [Bool.false_eq_true, if_false, spine_eq, this] at h
      exact .inl ⟨rfl, h⟩
     ·have := set_same true hb
      simp only [if_true, spine_eq, this] at h
      exact .inr ⟨rfl, h⟩
    ·cases b
     ·have := set_same false hb
      simp only [Bool.false_eq_true, if_false, spine_eq, this] at h
      exact .inr ⟨rfl, h⟩
     ·have := set_same true hb
      simp only [if_true, spine_eq, this] at h
      exact .inl ⟨rfl, h⟩
   ·rename_i vs hb
    simp only [hb]
    exact .inr ⟨trivial, h⟩
   ·cases h
theorem opsK_le {ops : List Oper} : ∀ (r : List Oper) (ts : List AV) (σ : Store) {k : List AV → Store → Option γ}, OLe (opsK G T C f ops r ts σ k) (bnd (evOps G C f ops r ⟨ts, σ⟩) fun p => k p.1.ts p.1.σ)
 | [], _, _, k => fun y h => h
 | o :: r, ts, σ, k => by
  intro y h
  simp only [opsK] at h
  rcases guardK_inv h with ⟨hw, h⟩ | ⟨hw, h⟩
  ·obtain ⟨e, he, h⟩ := bnd_some_iff.1 (opK_le _ h)
   obtain ⟨v, σ', rd, wr⟩ := e
   simp only [forceV_eq, forceS_eq, spine_eq] at h
   obtain ⟨p, hp, h⟩ := bnd_some_iff.1 (opsK_le r _ _ _ h)
   refine bnd_some_iff.2 ⟨(p.1, (rd, wr) :: p.2), ?_, h⟩
   simp only [evOps, hw, he, hp]
  ·rw [spine_eq] at h
   obtain ⟨p, hp, h⟩ := bnd_some_iff.1 (opsK_le r _ _ _ h)
   refine bnd_some_iff.2 ⟨(p.1, ([], []) :: p.2), ?_, h⟩
   simp only [evOps, hw, hp]
theorem ordK_le {ops : Array Oper} : ∀ (p : List Nat) (Ws : List (Nat × List Id × List Id)) (ts : List AV) (σ : Store) {k : List AV → Store → Option γ}, OLe (ordK G T C f ops p Ws ts σ k) (bnd (evF G C f ops p Ws ⟨ts, σ⟩) fun s => k s.ts s.σ)
 | [], _, _, _, k => fun y h => h
 | i :: p, Ws, ts, σ, k => by
  intro y h
  simp only [ordK] at h
  split at h
  ·cases h
  ·rename_i o ho
   rcases guardK_inv h with ⟨hw, h⟩ | ⟨hw, h⟩
   ·obtain ⟨e, he, h⟩ := bnd_some_iff.1 (opK_le _ h)
    obtain ⟨v, σ', rd, wr⟩ := e
    simp only [spine_eq] at h
    split at h
    ·rename_i ha
     simp only [forceV_eq, forceS_eq] at h
     obtain ⟨r, hr, h⟩ := bnd_some_iff.1 (ordK_le p _ _ _ _ h)
     refine bnd_some_iff.2 ⟨r, ?_, h⟩
     simp only [evF, evStep, ho, hw, he, Option.map_some, Option.bind_some]
     rw [if_pos ha]
     exact hr
    ·cases h
   ·split at h
    ·rename_i ha
     rw [spine_eq] at h
     obtain ⟨r, hr, h⟩ := bnd_some_iff.1 (ordK_le p _ _ _ _ h)
     refine bnd_some_iff.2 ⟨r, ?_, h⟩
     simp only [evF, evStep, ho, hw, Option.bind_some]
     rw [if_pos ha]
     exact hr
    ·cases h
theorem regK_le {ops : Array Oper} {draw : Bool} {ts : List AV} {σ : Store} {k : List AV → Store → Option γ} : OLe (regK G T C f ops draw ts σ k) (bnd (evRegion G C f ops draw ⟨ts, σ⟩) fun s => k s.ts s.σ) := by
 intro y h
 unfold regK at h
 unfold evRegion
 split at h
 ·rename_i hd
  rw [if_pos hd]
  obtain ⟨p, hp, h⟩ := bnd_some_iff.1 h
  rw [hp, Option.bind_some]
  rw [spine_eq] at h
  exact ordK_le p _ _ _ _ h
 ·rename_i hd
  rw [if_neg hd]
  obtain ⟨p, hp, h⟩ := bnd_some_iff.1 (opsK_le _ _ _ _ h)
  exact bnd_some_iff.2 ⟨p.1, by rw [hp]; rfl, h⟩
theorem headK_inv {b : Code} {k : Kont} {ts : List AV} {σ : Store} {y : R} (h : headK G L f b k ts σ = some y) : ∃ s' p, head (G.hint f (firstRegion b)) ⟨ts, σ⟩ = some s' ∧ L f b s' = some p ∧ k p.1 p.2.ts p.2.σ = some y := by
 unfold headK at h
 obtain ⟨s', hs, h⟩ := bnd_some_iff.1 h
 obtain ⟨ts', σ'⟩ := s'
 simp only [forceL_eq, forceS_eq] at h
 obtain ⟨p, hp, h⟩ := bnd_some_iff.1 h
 exact ⟨_, p, hs, hp, h⟩
theorem cps_le : ∀ (c : Code) (k : Kont) (ts : List AV) (σ : Store), OLe (cps G T C L f c k ts σ) (bnd (evCode G C L f c ⟨ts, σ⟩) fun p => k p.1 p.2.ts p.2.σ) := by
 intro c
 induction c with
 | skip => intro k ts σ y h; exact h
 | label => intro k ts σ y h; exact h
 | region id ops draw =>
  intro k ts σ y h
  simp only [cps] at h
  obtain ⟨s', hs, h⟩ := bnd_some_iff.1 (regK_le _ h)
  exact bnd_some_iff.2 ⟨(.normal, s'), by simp only [evCode, hs, Option.map_some], h⟩
 | seq a b iha ihb =>
  intro k ts σ y h
  simp only [cps] at h
  obtain ⟨p, hp, h⟩ := bnd_some_iff.1 (iha _ _ _ _ h)
  obtain ⟨e, s'⟩ := p
  cases e with
  | normal =>
   simp only [andThen] at h
   obtain ⟨q, hq, h⟩ := bnd_some_iff.1 (ihb _ _ _ _ h)
   exact bnd_some_iff.2 ⟨q, by simp only [evCode, hp]; exact hq, h⟩
  | exit i =>
   simp only [andThen] at h
   exact bnd_some_iff.2 ⟨(.exit i, s'), by simp only [evCode, hp], h⟩
  | ret =>
   simp only [andThen] at h
   exact bnd_some_iff.2 ⟨(.ret, s'), by simp only [evCode, hp], h⟩
 | cond c x y ihx ihy =>
  intro k ts σ z h
  simp only [cps] at h
  split at h
  ·rename_i b hb
   split at h
   ·rename_i ht
    obtain ⟨p, hp, h⟩ := bnd_some_iff.1 (ihx _ _ _ _ h)
    exact bnd_some_iff.2 ⟨p, by simp only [evCode, hb, ht, if_true]; exact hp, h⟩
   ·rename_i ht
    obtain ⟨p, hp, h⟩ := bnd_some_iff.1 (ihy _ _ _ _ h)
    exact bnd_some_iff.2 ⟨p, by simp only [evCode, hb]; rw [if_neg ht]; exact hp, h⟩
  ·cases h
 | block id b ih =>
  intro k ts σ y h
  simp only [cps] at h
  obtain ⟨p, hp, h⟩ := bnd_some_iff.1 (ih _ _ _ _ h)
  obtain ⟨e, s'⟩ := p
  cases e with
  | normal => exact bnd_some_iff.2 ⟨(.normal, s'), by simp only [evCode, hp], h⟩
  | ret => exact bnd_some_iff.2 ⟨(.ret, s'), by simp only [evCode, hp], h⟩
  | exit i =>
   simp only [blockK] at h
   split at h
   ·rename_i hi
    exact bnd_some_iff.2 ⟨(.normal, s'), by simp only [evCode, hp, if_pos hi], h⟩
   ·rename_i hi
    exact bnd_some_iff.2 ⟨(.exit i, s'), by simp only [evCode, hp, if_neg hi], h⟩
 | loop b ih =>
  intro k ts σ y h
  simp only [cps] at h
  obtain ⟨s', p, hs, hp, h⟩ := headK_inv h
  exact bnd_some_iff.2 ⟨p, by simp only [evCode, hs, Option.bind_some]; exact hp, h⟩
 | scope b ih =>
  intro k ts σ y h
  simp only [cps] at h
  obtain ⟨p, hp, h⟩ := bnd_some_iff.1 (ih _ _ _ _ h)
  exact bnd_some_iff.2 ⟨p, by simp only [evCode]; exact hp, h⟩
 | exit id => intro k ts σ y h; exact h
 | ret => intro k ts σ y h; exact h
 | _ => intro k ts σ y h; simp only [cps] at h; cases h
theorem finK_inv {fn : Func} {e : Ex} {s : St} {y : R} (h : finK G T f fn e s.ts s.σ = some y) : (∀ i, e ≠ .exit i) ∧ (match resultA G fn s with | some v => leaveA G f v s.σ | none => none) = some y := by
 unfold finK at h
 split at h
 ·cases h
 ·rename_i hne
  refine ⟨fun i hi => hne i hi, ?_⟩
  obtain ⟨vs, hvs, h⟩ := bnd_some_iff.1 h
  have hres : resultA G fn s = some (packR vs) := by
   unfold resultA
   rw [hvs]
   unfold packR
   split <;> simp_all
  rw [hres]
  simp only
  unfold leaveA
  dsimp only at h
  split at h
  ·rename_i hk
   rw [if_pos hk]
   exact h
  ·rename_i hk
   rw [if_neg hk]
   unfold leaveWith
   split at h
   ·rename_i hc
    refine (if_pos hc).trans ?_
    split at h
    ·obtain ⟨v', hv, h⟩ := bnd_some_iff.1 h
     rw [hv, Option.map_some]
     exact h
    ·obtain ⟨a, ha, h⟩ := cast_inv h
     rw [ha, Option.map_some]
     exact h
   ·cases h
end
theorem funK0_le {G : Cfg} {T : Hn} {f : FuncId} {fn : Func} (hf : G.P.funcs[f]? = some fn) {args : List AV} {σ : Store} {r : R} (h : funK0 G T f fn args σ = some r) : callBody0 G (call G) (loop G) f args σ = some r := by
 unfold funK0 at h
 unfold callBody0
 rw [hf]
 simp only
 split at h
 ·rename_i c hc
  rw [hc]
  simp only
  obtain ⟨p, hp, h⟩ := bnd_some_iff.1 (cps_le _ _ _ _ _ h)
  obtain ⟨e, s⟩ := p
  rw [hp]
  obtain ⟨h1, h2⟩ := finK_inv h
  cases e with
  | normal => exact h2
  | ret => exact h2
  | exit i => exact absurd rfl (h1 i)
 ·cases h
theorem funK_le {G : Cfg} {T : Hn} {f : FuncId} {fn : Func} (hf : G.P.funcs[f]? = some fn) {args : List AV} {σ : Store} {r : R} (h : funK G T f fn args σ = some r) : call G f args σ = some r := by
 unfold funK at h
 split at h
 ·rename_i hh he
  rw [call_eq]
  unfold callBody callX callZ
  rw [he]
  simp only
  split
  ·rename_i h1; rw [hh] at h1; cases h1
  ·rename_i h1; rw [hh] at h1; cases h1
  ·exact funK0_le hf h
 ·cases h
theorem ext_call {G : Cfg} {f : FuncId} {args : List AV} {r : AV} (h : G.ext f args = some r) : call G f args [] = some (r, []) := by
 rw [call_eq]
 unfold callBody callX
 rw [h]
theorem funZ_le {G : Cfg} {T : Hn} {f : FuncId} {fn : Func} (hf : G.P.funcs[f]? = some fn) (hh : (G.hint f 1000002).isEmpty = false) {α : Type} {c : α → List AV} {l : List α} (he : G.ext f [slc c l] = none) {σ : Store} {r : R} (h2 : funK0 G T f fn [slN c l] σ = some r)
  (h1 : l = [] → funK0 G T f fn [.sl 1 0 []] σ = some r) : call G f [slc c l] σ = some r := by
 rw [call_eq]
 unfold callBody callX
 rw [he]
 simp only
 unfold callZ slc
 have h2 := funK0_le hf h2
 unfold slN at h2
 split
 ·rename_i h3 h4
  cases h4
  rw [if_pos fun h0 => by
   have := List.eq_nil_of_length_eq_zero h0
   rw [h2]
   exact funK0_le hf (h1 this)]
  exact h2
 ·rename_i h3 h4
  cases h4
 ·rename_i h3 h4
  cases hq : G.hint f 1000002 with
  | nil => rw [hq] at hh; cases hh
  | cons a b => exact absurd rfl (h3 _ _ _ _ hq)
theorem lpK_le {G : Cfg} {T : Hn} {f : FuncId} {fn : Func} {p : List Nat} {ts : List AV} {σ : Store} {r : R} (h : rdK G T f fn p ts σ = some r) : lpK G T f fn p ts σ = some r := by
 unfold rdK at h
 unfold lpK
 split at h
 ·rename_i c hc
  unfold lp
  generalize loopAt c p = b at h ⊢
  generalize ctxK G T (call G) (loop G) f c p (finK G T f fn) = k at h ⊢
  obtain ⟨q, hq, h⟩ := bnd_some_iff.1 (cps_le _ _ _ _ _ h)
  obtain ⟨e, s⟩ := q
  rw [loop_eq]
  unfold loopBody
  rw [hq]
  cases e with
  | normal =>
   simp only [loopK, andThen] at h
   obtain ⟨s', p, hs, hp, h⟩ := headK_inv h
   simp only [hs, Option.bind_some, hp]
   exact bnd_some_iff.2 ⟨p, rfl, h⟩
  | exit i => exact h
  | ret => exact h
 ·cases h
end Go.Ev
namespace Go.Ev
open Go
section
variable {α β γ : Type}
def Inj {α β : Type} (f : α → β) : Prop := ∀ a b, f a = f b → a = b
structure COk (c : α → List AV) (s : Nat) : Prop where
 len : ∀ a, (c a).length = s
 inj : Inj c
theorem flat_len {c : α → List AV} {s : Nat} (h : ∀ a, (c a).length = s) : ∀ l : List α, (l.flatMap c).length = l.length * s
 | [] => by simp
 | a :: r => by simp [h a, flat_len h r, Nat.add_mul]; omega
theorem flat_drop {c : α → List AV} {s : Nat} (h : ∀ a, (c a).length = s) : ∀ (l : List α) (n : Nat), (l.flatMap c).drop (n * s) = (l.drop n).flatMap c
 | [], n => by simp
 | a :: r, 0 => by simp
 | a :: r, n + 1 => by
  rw [List.flatMap_cons, Nat.add_mul, Nat.one_mul, Nat.add_comm, ← List.drop_drop, List.drop_left' (h a)]
  exact flat_drop h r n
theorem flat_take {c : α → List AV} {s : Nat} (h : ∀ a, (c a).length = s) : ∀ (l : List α) (n : Nat), (l.flatMap c).take (n * s) = (l.take n).flatMap c
 | [], n => by simp
 | a :: r, 0 => by simp
 | a :: r, n + 1 => by
  rw [List.flatMap_cons, Nat.add_mul, Nat.one_mul, Nat.add_comm, List.take_add, List.take_left' (h a), List.drop_left' (h a), flat_take h r n]
  simp
theorem flat_at {c : α → List AV} {s : Nat} (h : ∀ a, (c a).length = s) {l : List α} {n : Nat} {x : α} (hx : l[n]? = some x) : ((l.flatMap c).drop (n * s)).take s = c x := by
 rw [flat_drop h]
 have : l.drop n = x :: l.drop (n + 1) := by
  obtain ⟨hn, rfl⟩ := List.getElem?_eq_some_iff.1 hx
  exact List.drop_eq_getElem_cons hn
 rw [this, List.flatMap_cons, List.take_left' (h x)]
theorem flat_inj {c : α → List AV} {s : Nat} (h : COk c s) : ∀ (l m : List α), l.length = m.length → l.flatMap c = m.flatMap c → l = m
 | [], [], _, _ => rfl
 | a :: r, b :: q, hl, he => by
  simp only [List.flatMap_cons] at he
  have h1 := List.append_inj he (by rw [h.len, h.len])
  rw [h.inj _ _ h1.1, flat_inj h r q (by simpa using hl) h1.2]
 | [], _ :: _, hl, _ => by simp at hl
 | _ :: _, [], hl, _ => by simp at hl
theorem slc_inj {c : α → List AV} {s : Nat} (h : COk c s) : Inj (slc c) := fun l m he => by
 unfold slc at he
 injection he with _ h1 h2
 exact flat_inj h l m h1 h2
theorem slc_eq {c : α → List AV} {s : Nat} (h : COk c s) {l m : List α} : slc c l = slc c m ↔ l = m := ⟨fun he => slc_inj h l m he, fun he => he ▸ rfl⟩
end
def OK {γ : Type} (o : Option γ) (Q : γ → Prop) : Prop := ∃ r, o = some r ∧ Q r
theorem OK.mono {γ : Type} {o : Option γ} {Q Q' : γ → Prop} (h : OK o Q) (k : ∀ r, Q r → Q' r) : OK o Q' := by
 obtain ⟨r, h1, h2⟩ := h
 exact ⟨r, h1, k r h2⟩
theorem OK.some {γ : Type} {r : γ} {Q : γ → Prop} (h : Q r) : OK (.some r) Q := ⟨r, rfl, h⟩
theorem OK.le {γ : Type} {a b : Option γ} {Q : γ → Prop} (h : OLe a b) (k : OK a Q) : OK b Q := by
 obtain ⟨r, h1, h2⟩ := k
 exact ⟨r, h r h1, h2⟩
theorem OK.ite {γ : Type} {p : Prop} [Decidable p] {a b : Option γ} {Q : γ → Prop} (h1 : p → OK a Q) (h2 : ¬ p → OK b Q) : OK (if p then a else b) Q := by
 by_cases h : p
 ·rw [if_pos h]; exact h1 h
 ·rw [if_neg h]; exact h2 h
section
variable {α γ : Type} {P : Program} {G : Cfg} {C : Oracle}
theorem cl_eq {enc : α → R} (hi : Inj enc) {f : FuncId} {args : List AV} {σ : Store} {a : α} (h : C f args σ = some (enc a)) (k : α → Option γ) : cl enc C f args σ k = k a := by
 unfold cl
 exact cast_of hi h k
theorem cl_ok {enc : α → R} (hi : Inj enc) {f : FuncId} {args : List AV} {σ : Store} {Q : α → Prop} (h : ∃ a, C f args σ = some (enc a) ∧ Q a) {k : α → Option γ} {Q' : γ → Prop} (hk : ∀ a, Q a → OK (k a) Q') : OK (cl enc C f args σ k) Q' := by
 obtain ⟨a, h1, h2⟩ := h
 rw [cl_eq hi h1]
 exact hk a h2
theorem cl2_a {α β γ : Type} {C : Oracle} {enc : α → R} {enc' : β → R} (hi : Inj enc) {f : FuncId} {args : List AV} {σ : Store} {a : α} (h : C f args σ = some (enc a)) (k : α → Option γ) (k' : β → Option γ) : cl2 enc enc' C f args σ k k' = k a := by
 unfold cl2
 rw [h, bnd_some, dec_of hi]
theorem cl2_b {α β γ : Type} {C : Oracle} {enc : α → R} {enc' : β → R} (hi : Inj enc') (hd : ∀ a b, enc a ≠ enc' b) {f : FuncId} {args : List AV} {σ : Store} {b : β} (h : C f args σ = some (enc' b)) (k : α → Option γ) (k' : β → Option γ) : cl2 enc enc' C f args σ k k' = k' b := by
 unfold cl2
 have : dec enc (enc' b) = none := by
  unfold dec
  rw [dif_neg]
  rintro ⟨a, ha⟩
  exact hd a b ha
 rw [h, bnd_some, this]
 simp only
 rw [dec_of hi, bnd_some]
structure SlOk (P : Program) (t : TypeId) (c : α → List AV) : Prop where
 ex : ∃ e s, slT P t = some e ∧ szT P e = some s ∧ COk c s
theorem iptr_inj {c : α → List AV} {s : Nat} (h : COk c s) : Inj fun a => AV.iptr (c a) := fun a b he => by
 injection he with h1
 exact h.inj a b h1
theorem ixA_at {t : TypeId} {c : α → List AV} (h : SlOk P t c) {l : List α} {i : Int} {n : Nat} (hi : i = n) {x : α} (hx : l[n]? = some x) (k : α → Option γ) : ixA P t c (slc c l) (.sc (.int .i64 i)) k = k x := by
 obtain ⟨e, s, h1, h2, h3⟩ := h
 unfold ixA
 refine cast_of (iptr_inj h3) ?_ k
 have hn := (List.getElem?_eq_some_iff.1 hx).1
 subst hi
 unfold evIndexAddr slc
 simp only [h1, h2]
 rw [if_neg (by omega), if_pos (by omega), Int.toNat_natCast, flat_at h3.len hx]
def getI (l : List α) (i : Int) : Option α := if 0 ≤ i then l[i.toNat]? else none
theorem ixA_get {t : TypeId} {c : α → List AV} (h : SlOk P t c) (l : List α) (i : Int) {x : α} (hx : getI l i = some x) (k : α → Option γ) : ixA P t c (slc c l) (.sc (.int .i64 i)) k = k x := by
 unfold getI at hx
 split at hx
 ·exact ixA_at h (by omega) hx k
 ·cases hx
theorem getI_of {l : List α} {i : Int} (h0 : 0 ≤ i) (h1 : i < l.length) : getI l i = some (l[i.toNat]'(by omega)) := by
 unfold getI
 rw [if_pos h0]
 exact List.getElem?_eq_getElem _
theorem getI_nat (l : List α) (n : Nat) : getI l (n : Int) = l[n]? := by
 unfold getI
 rw [if_pos (by omega), Int.toNat_natCast]
theorem ixA_arr {t : TypeId} {c : α → List AV} {m e s : Nat} (ha : arT P t = some (m, e)) (hs : szT P e = some s) (hc : COk c s) {xs : List AV} {l : List α} (hx : xs = l.flatMap c) (hl : l.length = m) {i : Int} {x : α} (hi : getI l i = some x) (k : α → Option γ) :
  ixA P t c (.iptr xs) (.sc (.int .i64 i)) k = k x := by
 unfold ixA
 refine cast_of (iptr_inj hc) ?_ k
 unfold getI at hi
 split at hi
 ·rename_i h0
  have hn := (List.getElem?_eq_some_iff.1 hi).1
  unfold evIndexAddr
  simp only [ha, hs]
  rw [if_neg (by omega), if_pos (by omega), hx, flat_at hc.len hi]
 ·cases hi
theorem ixS_get {t : TypeId} (h : isStrT P t = true) (s : ByteArray) (i : Int) (h0 : 0 ≤ i) (h1 : i < s.size) (k : UInt8 → Option γ) : ixS P t (.sc (.string s)) (.sc (.int .i64 i)) k = k (s[i.toNat]'(by omega)) := by
 unfold ixS
 refine cast_of (fun a b he => ?_) ?_ k
 ·injection he with h2
  injection h2 with _ h3
  exact UInt8.toNat_inj.1 (by omega)
 ·unfold evIndex
  simp only [h, if_true]
  rw [if_neg (by omega)]
  have : s[i.toNat]? = some (s[i.toNat]'(by omega)) := by
   rw [getElem?_pos]
  rw [this]
  rfl
end
theorem wrap_id {n : Int} (h0 : -9223372036854775808 ≤ n) (h1 : n < 9223372036854775808) : IntKind.wrap .i64 n = n := by rw [IntKind.wrap_i64]; omega
theorem list_loop {α β γ : Type} (L : Int → β → Option γ) (l : List α) (res : List α → β → Option γ) (nil : ∀ b, L l.length b = res [] b)
  (cons : ∀ pre x post b, l = pre ++ x :: post → (∀ b', L ((pre.length : Int) + 1) b' = res post b') → L pre.length b = res (x :: post) b) : ∀ b, L 0 b = res l b := by
 have key : ∀ (post pre : List α), l = pre ++ post → ∀ b, L pre.length b = res post b := by
  intro post
  induction post with
  | nil => intro pre h b; rw [List.append_nil] at h; subst h; exact nil b
  | cons x post ih =>
   intro pre h b
   refine cons pre x post b h fun b' => ?_
   have := ih (pre ++ [x]) (by simpa using h) b'
   simpa using this
 intro b
 exact key l [] rfl b
theorem list_loop2 {α γ : Type} (L : Int → Option γ) (l : List α) (Inv : List α → Prop) (res : List α → List α → Option γ) (nil : Inv l → L l.length = res l [])
  (cons : ∀ pre x post, l = pre ++ x :: post → Inv pre → (Inv (pre ++ [x]) → L ((pre.length : Int) + 1) = res (pre ++ [x]) post) → L pre.length = res pre (x :: post)) (h0 : Inv []) : L 0 = res [] l := by
 have key : ∀ (post pre : List α), l = pre ++ post → Inv pre → L pre.length = res pre post := by
  intro post
  induction post with
  | nil => intro pre h hi; rw [List.append_nil] at h; subst h; exact nil hi
  | cons x post ih =>
   intro pre h hi
   refine cons pre x post h hi fun hi' => ?_
   have := ih (pre ++ [x]) (by simpa using h) hi'
   simpa using this
 exact key l [] rfl h0
theorem ixS_at {γ : Type} {P : Program} {t : TypeId} (h : isStrT P t = true) {s : ByteArray} {i : Int} {n : Nat} (hi : i = n) {x : UInt8} (hx : s.data.toList[n]? = some x) (k : UInt8 → Option γ) : ixS P t (.sc (.string s)) (.sc (.int .i64 i)) k = k x := by
 obtain ⟨hn, hx'⟩ := List.getElem?_eq_some_iff.1 hx
 have hs : n < s.size := by simpa using hn
 subst hi
 rw [ixS_get h s n (by omega) (by omega)]
 congr 1
theorem snoc_cases {α : Type} (l : List α) : l = [] ∨ ∃ p y, l = p ++ [y] := by
 rcases List.eq_nil_or_concat l with h | ⟨p, y, h⟩
 ·exact .inl h
 ·exact .inr ⟨p, y, by rw [h, List.concat_eq_append]⟩
theorem mid_get {α : Type} {l pre post : List α} {x : α} (h : l = pre ++ x :: post) : l[pre.length]? = some x := by subst h; simp
theorem mid_lt {α : Type} {l pre post : List α} {x : α} (h : l = pre ++ x :: post) : (pre.length : Int) < l.length := by subst h; simp; omega
end Go.Ev
namespace Go.Ev
open Go
structure RowT {α : Type} (P : Program) (ty : TypeId) (c : α → List AV) (e by_ : Nat) : Prop where
 ok : COk c e
 pos : 0 < e
 nn : ∀ a, (c a).any isNst = false
 ex : ∃ et z, slT P ty = some et ∧ szT P et = some e ∧ byT P et = some by_ ∧ zeroT P et = some z ∧ z.length = e
section
variable {α γ : Type} {G : Cfg} {P : Program} {σ : Store}
theorem flat_nn {c : α → List AV} (h : ∀ a, (c a).any isNst = false) : ∀ l : List α, (l.flatMap c).any isNst = false
 | [] => rfl
 | a :: r => by rw [List.flatMap_cons, List.any_append, h a, flat_nn h r]; rfl
theorem oxA_at {ty : TypeId} {c : α → List AV} {e by_ : Nat} (h : RowT P ty c e by_) {id : Id} {sub : Option Nat} {n cap : Nat} {i : Int} {j : Nat} (hi : i = j) (hj : j < n) (k : Nat → Option γ) :
  oxA P ty id sub e (.own id sub 0 n cap) (.sc (.int .i64 i)) k = k j := by
 obtain ⟨et, z, h1, h2, _⟩ := h.ex
 unfold oxA
 refine cast_of (fun a b he => ?_) ?_ k
 ·injection he with _ _ h3
  exact Nat.eq_of_mul_eq_mul_right h.pos h3
 ·subst hi
  unfold evIndexAddr
  simp only [h1, h2]
  rw [if_neg (by omega), if_pos (by omega), Int.toNat_natCast, Nat.zero_add]
theorem ld_at {ty : TypeId} {E : TE} {s : Nat} (hs : szT G.P ty = some s) (hg : aggT G.P ty = some E.g) (hc : COk E.c s) (h1 : E.g = false → s = 1) {id : Id} {fr : Bool} {l : List E.α}
  (hb : σ.get? id = some (rowB fr false s E.c l)) {off j : Nat} (ho : off = j * s) {x : E.α} (hx : l[j]? = some x) (k : E.α → Option γ) : cast E.v (loadA G σ ty (.ptr id none off)) k = k x := by
 have hvi : Inj E.v := by
  intro a b he
  unfold TE.v at he
  cases hgg : E.g with
  | true => rw [hgg] at he; simp at he; exact hc.inj a b he
  | false =>
   rw [hgg] at he
   simp only [Bool.false_eq_true, if_false] at he
   have la := hc.len a
   have lb := hc.len b
   rw [h1 hgg] at la lb
   obtain ⟨p, hp⟩ := List.length_eq_one_iff.1 la
   obtain ⟨q, hq⟩ := List.length_eq_one_iff.1 lb
   rw [hp, hq] at he
   exact hc.inj a b (by rw [hp, hq]; simp only [one] at he; rw [he])
 refine cast_of hvi ?_ k
 have hn : (if E.g = true then s else 1) = s := by
  cases hgg : E.g with
  | true => simp
  | false => simp [h1 hgg]
 have htk : takeAt (l.flatMap E.c) off s = some (E.c x) := by
  unfold takeAt
  have hjl := (List.getElem?_eq_some_iff.1 hx).1
  rw [if_pos, ho, flat_at hc.len hx]
  rw [flat_len hc.len, ho, ← Nat.succ_mul]
  exact Nat.mul_le_mul_right _ hjl
 unfold loadA
 rw [hs, Option.bind_some, hg, Option.bind_some, hn]
 simp only [cellsAt, readAt, hb, rowB, htk, Option.map_some, Bool.and_false, Bool.false_eq_true, if_false, Option.bind_some]
 unfold pack TE.v
 cases hgg : E.g with
 | true => simp
 | false =>
  have la := hc.len x
  rw [h1 hgg] at la
  obtain ⟨p, hp⟩ := List.length_eq_one_iff.1 la
  simp [hp, one]
theorem give_at {c : α → List AV} {e : Nat} (h : COk c e) {id : Id} {fr : Bool} {l : List α} (hb : σ.get? id = some (rowB fr false e c l)) (k : List α → Option γ) :
  cast (fun a => slc c a) (giveUpT σ (.own id none 0 l.length l.length)) k = k l := by
 refine cast_of (slc_inj h) ?_ k
 simp only [giveUpT, giveUpV, giveUp, rowOf, hb, rowB, if_true]
 unfold takeAt
 rw [if_pos (by rw [flat_len h.len]; omega)]
 simp only [List.drop_zero, Option.map_some, Option.isNone_none, Option.getD_some, Bool.false_eq_true, and_false, if_false, if_true]
 rw [List.take_of_length_le (by rw [flat_len h.len]; exact Nat.le_refl _)]
 rfl
theorem giveV_at {c : α → List AV} {e : Nat} (h : COk c e) {id : Id} {fr : Bool} {l : List α} (hb : σ.get? id = some (rowB fr false e c l)) : giveUpV σ (.own id none 0 l.length l.length) = some (slc c l) := by
 simp only [giveUpV, giveUp, rowOf, hb, rowB, if_true]
 unfold takeAt
 rw [if_pos (by rw [flat_len h.len]; omega)]
 simp only [List.drop_zero, Option.map_some, Option.isNone_none, Option.getD_some, Bool.false_eq_true, and_false, if_false, if_true]
 rw [List.take_of_length_le (by rw [flat_len h.len]; exact Nat.le_refl _)]
 rfl
structure Src (σ : Store) (c : α → List AV) (e : Nat) (x : AV) (xs : List α) : Prop where
 el : elems σ e x = some (xs.length, xs.flatMap c, x.refs)
theorem Src.slc {c : α → List AV} {e : Nat} (h : COk c e) (xs : List α) : Src σ c e (slc c xs) xs := ⟨by
 unfold Ev.slc elems
 simp only
 rw [if_pos (flat_len h.len xs)]
 rfl⟩
theorem Src.slN {c : α → List AV} {e : Nat} (h : COk c e) (xs : List α) : Src σ c e (slN c xs) xs := ⟨by
 unfold Ev.slN elems
 simp only
 rw [if_pos (flat_len h.len xs)]
 rfl⟩
theorem Src.row {c : α → List AV} {e : Nat} (h : COk c e) {id : Id} {fr nest : Bool} {xs : List α} (hb : σ.get? id = some (rowB fr nest e c xs)) {n : Nat} (hn : n = xs.length) : Src σ c e (.own id none 0 n n) xs := ⟨by
 subst hn
 simp only [elems, rowOf, hb, rowB, if_true]
 unfold takeAt
 rw [if_pos (by rw [flat_len h.len]; omega)]
 simp only [List.drop_zero, Option.map_some, AV.refs]
 rw [List.take_of_length_le (by rw [flat_len h.len]; exact Nat.le_refl _)]⟩
theorem apR_take {ty : TypeId} {c : α → List AV} {e by_ : Nat} (h : RowT G.P ty c e by_) {fr nest : Bool} {t : Nat} {id : Id} {x : AV} {l xs : List α} (hb : σ.get? id = some (rowB fr nest e c l)) (hx : Src σ c e x xs) (hid : x.refs.contains id = false)
  (ht : σ.has (.v t) = false) {n cap : Nat} (hn : n ≤ l.length) (hc : n ≤ cap) (hsz : (n + xs.length) * by_ ≤ 140737488355328) (hsz2 : n + xs.length ≤ 9223372036854775807) (k : List α → Option γ) : apR G c fr nest e σ t id ty (.own id none 0 n cap) x k = k (l.take n ++ xs) := by
 obtain ⟨et, z, h1, h2, h3, h4, h5⟩ := h.ex
 have hnn := flat_nn h.nn xs
 have hidt : id ≠ .v t := fun he => by
  have := has_of_get hb
  rw [he, ht] at this
  cases this
 unfold apR
 refine cast_of (fun a b he => ?_) ?_ k
 ·injection he with h6 h7
  have h8 : (((σ.del id).put (.v t) (rowB fr nest e c a)).get? (.v t)) = (((σ.del id).put (.v t) (rowB fr nest e c b)).get? (.v t)) := by rw [h7]
  rw [get_put_same, get_put_same] at h8
  injection h8 with h8
  unfold rowB at h8
  injection h8 with _ _ _ _ h9
  injection h6 with _ _ _ h10
  exact flat_inj h.ok a b h10 h9
 ·unfold evAppend
  rw [h1, Option.bind_some, h2, Option.bind_some, h3, Option.bind_some, h4, Option.bind_some, if_pos h5, hx.el, Option.bind_some]
  unfold appendSrc
  simp only [hnn, Bool.false_eq_true, if_false, Option.bind_some]
  unfold evAppend1 appendTo
  have hr : rowOf σ id none = some (l.flatMap c, e) := by simp only [rowOf, hb, rowB, if_true]
  simp only [hr, hb]
  rw [if_pos ⟨trivial, hid⟩]
  have hlen := flat_len h.ok.len l
  have htk : ((l.flatMap c).drop 0).take (n * e) = (l.take n).flatMap c := by rw [List.drop_zero, flat_take h.ok.len]
  rw [if_neg (by simp), if_pos ⟨by rw [hlen, Nat.zero_add]; exact Nat.mul_le_mul_right _ hn, hc, trivial⟩, htk]
  unfold appendNew
  rw [if_pos ⟨hsz, hsz2, (by rw [List.any_append, flat_nn h.nn _, hnn]; intro hf; cases hf), (by rw [has_del]; exact ht)⟩]
  have hl : (l.take n ++ xs).length = n + xs.length := by rw [List.length_append, List.length_take, Nat.min_eq_left hn]
  rw [hl]
  simp [rowB, hnn]
theorem apR_eq {ty : TypeId} {c : α → List AV} {e by_ : Nat} (h : RowT G.P ty c e by_) {fr nest : Bool} {t : Nat} {id : Id} {x : AV} {l xs : List α} (hb : σ.get? id = some (rowB fr nest e c l)) (hx : Src σ c e x xs) (hid : x.refs.contains id = false)
  (ht : σ.has (.v t) = false) (hsz : (l.length + xs.length) * by_ ≤ 140737488355328) (hsz2 : l.length + xs.length ≤ 9223372036854775807) {n : Nat} (hn : n = l.length) (k : List α → Option γ) : apR G c fr nest e σ t id ty (.own id none 0 n n) x k = k (l ++ xs) := by
 subst hn
 rw [apR_take h hb hx hid ht (Nat.le_refl _) (Nat.le_refl _) hsz hsz2, List.take_length]
theorem rowE_inj {c : α → List AV} {e : Nat} (h : COk c e) {τ τ' : Store} {t : Nat} {fr nest : Bool} {rd wr : List Id} {a b : List α}
  (he : ({ val := .own (.v t) none 0 a.length a.length, σ := τ.put (.v t) (rowB fr nest e c a), rd := rd, wr := wr } : Eff) = { val := .own (.v t) none 0 b.length b.length, σ := τ'.put (.v t) (rowB fr nest e c b), rd := rd, wr := wr }) : a = b := by
 injection he with h6 h7
 have h8 : ((τ.put (.v t) (rowB fr nest e c a)).get? (.v t)) = ((τ'.put (.v t) (rowB fr nest e c b)).get? (.v t)) := by rw [h7]
 rw [get_put_same, get_put_same] at h8
 injection h8 with h8
 unfold rowB at h8
 injection h8 with _ _ _ _ h9
 injection h6 with _ _ _ h10
 exact flat_inj h a b h10 h9
theorem apN_eq {ty : TypeId} {c : α → List AV} {e by_ : Nat} (h : RowT G.P ty c e by_) {t : Nat} {x : AV} {xs : List α} (hx : Src σ c e x xs)
  (ht : σ.has (.v t) = false) (hsz : xs.length * by_ ≤ 140737488355328) (hsz2 : xs.length ≤ 9223372036854775807) (k : List α → Option γ) : apN G c e σ t ty x k = k xs := by
 obtain ⟨et, z, h1, h2, h3, h4, h5⟩ := h.ex
 have hnn := flat_nn h.nn xs
 unfold apN
 refine cast_of (fun a b he => rowE_inj h.ok he) ?_ k
 unfold evAppend
 rw [h1, Option.bind_some, h2, Option.bind_some, h3, Option.bind_some, h4, Option.bind_some, if_pos h5, hx.el, Option.bind_some]
 unfold appendSrc
 simp only [hnn, Bool.false_eq_true, if_false, Option.bind_some]
 unfold evAppend1 appendNew
 simp only
 rw [if_pos ⟨hsz, hsz2, (by rw [hnn]; intro hf; cases hf), ht⟩]
 simp [rowB, hnn]
theorem repl_flat {c : α → List AV} (z : α) : ∀ n : Nat, repl n (c z) = (List.replicate n z).flatMap c
 | 0 => rfl
 | n + 1 => by
  unfold repl
  rw [List.replicate_succ, List.replicate_succ, List.flatten_cons, List.flatMap_cons, ← repl_flat z n]
  rfl
theorem mkA_eq {ty : TypeId} {c : α → List AV} {e by_ : Nat} (h : RowT G.P ty c e by_) {inl : Bool} {t : Nat} {z : α} (hz : ∀ et zs, slT G.P ty = some et → zeroT G.P et = some zs → zs.map (nrm inl) = c z)
  (ht : σ.has (.v t) = false) {n : Int} (h0 : 0 ≤ n) (hsz : n * by_ ≤ 140737488355328) (hsz2 : n ≤ 9223372036854775807) (k : List α → Option γ) :
  mkA G inl c e σ t ty (.sc (.int .i64 n)) (.sc (.int .i64 n)) k = k (List.replicate n.toNat z) := by
 obtain ⟨et, zs, h1, h2, h3, h4, h5⟩ := h.ex
 unfold mkA
 refine cast_of (fun a b he => rowE_inj h.ok he) ?_ k
 unfold evMakeSlice
 simp only [h1, h2, h3, h4]
 rw [if_pos ⟨trivial, h0, hsz, hsz2, h5⟩]
 unfold newBlk
 simp only [ht, if_true]
 rw [hz et zs h1 h4, repl_flat]
 simp [rowB]
theorem putAt_mid (A B C xs : List AV) (f : Nat) (h : f + xs.length ≤ B.length) : putAt (A ++ B ++ C) (A.length + f) xs = A ++ putAt B f xs ++ C := by
 unfold putAt
 have e1 : (A ++ B ++ C).take (A.length + f) = A ++ B.take f := by
  rw [List.append_assoc, List.take_length_add_append, List.take_append_of_le_length (by omega)]
 have e2 : (A ++ B ++ C).drop (A.length + f + xs.length) = B.drop (f + xs.length) ++ C := by
  rw [List.append_assoc, Nat.add_assoc, List.drop_length_add_append, List.drop_append_of_le_length h]
 rw [e1, e2]
 simp
theorem putAt_elem {c : α → List AV} {s : Nat} (h : ∀ a, (c a).length = s) {l : List α} {j : Nat} {y y' : α} (hj : l[j]? = some y) {f : Nat} {xs : List AV} (hf : f + xs.length ≤ s) (hy : putAt (c y) f xs = c y') :
  putAt (l.flatMap c) (j * s + f) xs = (l.set j y').flatMap c := by
 obtain ⟨hlt, hy0⟩ := List.getElem?_eq_some_iff.1 hj
 have hl : l = l.take j ++ y :: l.drop (j + 1) := by rw [← hy0, List.getElem_cons_drop hlt, List.take_append_drop]
 have hs : l.set j y' = l.take j ++ y' :: l.drop (j + 1) := List.set_eq_take_append_cons_drop.trans (if_pos hlt)
 have hA : ((l.take j).flatMap c).length = j * s := by rw [flat_len h, List.length_take, Nat.min_eq_left (by omega)]
 rw [hs]
 conv => lhs; rw [hl]
 simp only [List.flatMap_append, List.flatMap_cons]
 rw [← List.append_assoc, ← hA, putAt_mid _ _ _ _ _ (by rw [h]; exact hf), hy, List.append_assoc]
theorem stA_eq {c : α → List AV} {e : Nat} (hc : COk c e) {id : Id} {b : Blk} {l l' : List α} (hb : σ.get? id = some b) (ha : b.arr = true) (hbc : b.cells = l.flatMap c) {ty : TypeId} {n : Nat} (hn : szT G.P ty = some n) {off : Nat} {x : AV}
  (hx : x.cellOk = true) (hf : ∀ y, y ∈ x.cells → y.flat = true ∧ y ≠ .emp) (hl : x.cells.length = n) (hle : off + n ≤ l.length * e) (hp : putAt (l.flatMap c) off x.cells = l'.flatMap c) (he : 0 < e) (k : List α → Option γ) :
  stA G c σ id b ty (.ptr id none off) x k = k l' := by
 unfold stA
 have hand : handAll false σ x.cells = some (x.cells, σ, []) := by
  have key : ∀ ys : List AV, (∀ y, y ∈ ys → y.flat = true ∧ y ≠ .emp) → handAll false σ ys = some (ys, σ, []) := by
   intro ys
   induction ys with
   | nil => intro _; rfl
   | cons y r ih =>
    intro h
    have h1 := h y (by simp)
    have : handIn false σ y = some (y, σ, []) := by
     rw [handIn_flat h1.1]
     cases y <;> first | rfl | exact absurd rfl h1.2
    simp only [handAll, this, ih fun z hz => h z (by simp [hz]), List.nil_append]
  exact key _ hf
 have hst : storeA G σ ty (.ptr id none off) x = some { val := undefA, σ := σ.put id { b with cells := l'.flatMap c }, wr := [id] } := by
  unfold storeA
  rw [hn, Option.bind_some]
  unfold storeAt
  rw [if_neg (by simp [hx])]
  simp only [hb]
  rw [if_pos ha]
  unfold storeArr
  rw [hand]
  simp only
  rw [if_pos ⟨hl, by rw [hbc, flat_len hc.len]; exact hle, rfl⟩, if_neg (fun h => h.2 rfl), hbc, hp]
 unfold cast
 rw [hst, bnd_some]
 have hd : dec (fun l : List α => ({ val := undefA, σ := σ.put id { b with cells := l.flatMap c }, wr := [id] } : Eff)) { val := undefA, σ := σ.put id { b with cells := l'.flatMap c }, wr := [id] } = some l' := by
  unfold dec
  have hx : ∃ a : List α, ({ val := undefA, σ := σ.put id { b with cells := a.flatMap c }, wr := [id] } : Eff) = { val := undefA, σ := σ.put id { b with cells := l'.flatMap c }, wr := [id] } := ⟨l', rfl⟩
  rw [dif_pos hx]
  have hs := hx.choose_spec
  injection hs with _ h7
  have h8 : ((σ.put id { b with cells := hx.choose.flatMap c }).get? id) = ((σ.put id { b with cells := l'.flatMap c }).get? id) := by rw [h7]
  rw [get_put_same, get_put_same] at h8
  injection h8 with h8
  injection h8 with _ _ _ _ h9
  refine congrArg some (flat_inj hc _ _ ?_ h9)
  have h10 := congrArg List.length h9
  rw [flat_len hc.len, flat_len hc.len] at h10
  exact Nat.eq_of_mul_eq_mul_right he h10
 rw [hd, bnd_some]
end
theorem rowB_eq {α : Type} {c : α → List AV} {s : Nat} (h : COk c s) (h0 : 0 < s) {fr nest : Bool} {l m : List α} : rowB fr nest s c l = rowB fr nest s c m ↔ l = m := by
 constructor
 ·intro he
  unfold rowB at he
  injection he with _ _ _ _ h1
  have h2 := congrArg List.length h1
  rw [flat_len h.len, flat_len h.len] at h2
  exact flat_inj h l m (Nat.eq_of_mul_eq_mul_right h0 h2) h1
 ·intro he; rw [he]
theorem nst_eq {α : Type} {c : α → List AV} {s : Nat} (h : COk c s) {e : Nat} {l m : List α} : AV.nst e l.length (l.flatMap c) = AV.nst e m.length (m.flatMap c) ↔ l = m := by
 constructor
 ·intro he
  injection he with _ h1 h2
  exact flat_inj h l m h1 h2
 ·intro he; rw [he]
theorem app_eq {α : Type} {l m s t : List α} (h : l.length = m.length) : (l ++ s = m ++ t) = (l = m ∧ s = t) := propext ⟨fun he => List.append_inj he h, fun he => by rw [he.1, he.2]⟩
end Go.Ev
