/-
  Ed: one of the texts behind a proof of laws.FnSupplied: the program's types as data
  Its conditions: none of its own.
-/
import Derived.Test.YtjmdglkjpkpjoaaGreatDoorEc
import Derived.Test.YtjmdglkjpkpjoaaGreatDoorProg
import Derived.KernelRfl
set_option maxRecDepth 100000
set_option linter.unusedVariables false
set_option linter.unusedSectionVars false
set_option linter.unusedSimpArgs false
set_option linter.unnecessarySimpa false
/-
  THE DATA that the program handles: its structs, how they lie in cells; the table of types; the configuration of the evaluator.
  Written by a program (types.py) off the translation's own tables.
-/
namespace Go.Ev
open Go Go.Proofs
abbrev I (n : Int) : AV := .sc (.int .i64 n)
abbrev K (k : IntKind) (n : Int) : AV := .sc (.int k n)
abbrev B (b : Bool) : AV := .sc (.bool b)
abbrev S (s : ByteArray) : AV := .sc (.string s)
def cI (n : Int) : List AV := [I n]
def cU64 (n : Int) : List AV := [K .u64 n]
def cI32 (n : Int) : List AV := [K .i32 n]
def cU32 (n : Int) : List AV := [K .u32 n]
def cB (b : Bool) : List AV := [B b]
def cS (s : ByteArray) : List AV := [S s]
/-- A slice of the program's own arguments. -/
structure KSl where
  A : Option Addr
  n : Nat
  k : Nat
def Kn (x : KSl) : AV := .sc (.slice x.A x.n x.k)
@[simp] theorem Kn_eq (a b : KSl) : Kn a = Kn b ↔ a = b := by
  obtain ⟨_, _, _⟩ := a
  obtain ⟨_, _, _⟩ := b
  simp [Kn]
def cLY (l : List UInt8) : List AV := [slc cY l]
def cLI (l : List Int) : List AV := [slc cI l]
structure DTerrain where
  Name : ByteArray
  Cost : List Int
  Shift : Int
  Height : Int
  Blocks : Bool
def cTerrain (x : DTerrain) : List AV := [S x.Name, slc cI x.Cost, I x.Shift, I x.Height, B x.Blocks]
def cLTerrain (l : List DTerrain) : List AV := [slc cTerrain l]
structure DKind where
  Name : ByteArray
  Strength : Int
  Moves : Int
  Steps : Int
  Zone : Bool
  View : Int
def cKind (x : DKind) : List AV := [S x.Name, I x.Strength, I x.Moves, I x.Steps, B x.Zone, I x.View]
def cLKind (l : List DKind) : List AV := [slc cKind l]
structure DRules where
  Terrains : List DTerrain
  Kinds : List DKind
  Stack : Int
  River : Int
  Road : Int
  Supply : Int
  Turns : Int
def cRules (x : DRules) : List AV := [slc cTerrain x.Terrains, slc cKind x.Kinds, I x.Stack, I x.River, I x.Road, I x.Supply, I x.Turns]
structure DMap where
  Width : Int
  Height : Int
  Terrain : List Int
  Rivers : List Int
  Roads : List Int
def cMap (x : DMap) : List AV := [I x.Width, I x.Height, slc cI x.Terrain, slc cI x.Rivers, slc cI x.Roads]
structure DBoard where
  Rules : DRules
  Map : DMap
def cBoard (x : DBoard) : List AV := [slc cTerrain x.Rules.Terrains, slc cKind x.Rules.Kinds, I x.Rules.Stack, I x.Rules.River, I x.Rules.Road, I x.Rules.Supply, I x.Rules.Turns, I x.Map.Width, I x.Map.Height, slc cI x.Map.Terrain, slc cI x.Map.Rivers, slc cI x.Map.Roads]
structure DUnit where
  Side : Int
  Kind : Int
  At : Int
  Steps : Int
def cUnit (x : DUnit) : List AV := [I x.Side, I x.Kind, I x.At, I x.Steps]
def cLUnit (l : List DUnit) : List AV := [slc cUnit l]
structure DState where
  Turn : Int
  Weather : Int
  Units : List DUnit
def cState (x : DState) : List AV := [I x.Turn, I x.Weather, slc cUnit x.Units]
structure Dl1Cur where
  code_ : KSl
  at_ : Int
  seed_ : Int
def cl1Cur (x : Dl1Cur) : List AV := [Kn x.code_, I x.at_, K .u64 x.seed_]
def cLB (l : List Bool) : List AV := [slc cB l]
structure A2I where
  a0 : Int
  a1 : Int
def cA2I (x : A2I) : List AV := [I x.a0, I x.a1]
def cLA2I (l : List A2I) : List AV := [slc cA2I l]
structure DHex where
  Q : Int
  R : Int
def cHex (x : DHex) : List AV := [I x.Q, I x.R]
def cLLI (l : List (List Int)) : List AV := [slc cLI l]
def cLS (l : List ByteArray) : List AV := [slc cS l]
structure A6Hex where
  a0 : DHex
  a1 : DHex
  a2 : DHex
  a3 : DHex
  a4 : DHex
  a5 : DHex
def cA6Hex (x : A6Hex) : List AV := [I x.a0.Q, I x.a0.R, I x.a1.Q, I x.a1.R, I x.a2.Q, I x.a2.R, I x.a3.Q, I x.a3.R, I x.a4.Q, I x.a4.R, I x.a5.Q, I x.a5.R]
def tblAt : List (TypeId × TE) → TypeId → Option TE
  | [], _ => none
  | (a, e) :: r, t => bif Nat.beq a t then some e else tblAt r t
def tLY : TE := ⟨List UInt8, false, cLY⟩
def tY : TE := ⟨UInt8, false, cY⟩
def tB : TE := ⟨Bool, false, cB⟩
def tI : TE := ⟨Int, false, cI⟩
def tBoard : TE := ⟨DBoard, true, cBoard⟩
def tRules : TE := ⟨DRules, true, cRules⟩
def tLTerrain : TE := ⟨List DTerrain, false, cLTerrain⟩
def tTerrain : TE := ⟨DTerrain, true, cTerrain⟩
def tS : TE := ⟨ByteArray, false, cS⟩
def tLI : TE := ⟨List Int, false, cLI⟩
def tLKind : TE := ⟨List DKind, false, cLKind⟩
def tKind : TE := ⟨DKind, true, cKind⟩
def tMap : TE := ⟨DMap, true, cMap⟩
def tState : TE := ⟨DState, true, cState⟩
def tLUnit : TE := ⟨List DUnit, false, cLUnit⟩
def tUnit : TE := ⟨DUnit, true, cUnit⟩
def tl1Cur : TE := ⟨Dl1Cur, true, cl1Cur⟩
def tU64 : TE := ⟨Int, false, cU64⟩
def tLB : TE := ⟨List Bool, false, cLB⟩
def tA2I : TE := ⟨A2I, true, cA2I⟩
def tLA2I : TE := ⟨List A2I, false, cLA2I⟩
def tHex : TE := ⟨DHex, true, cHex⟩
def tLLI : TE := ⟨List (List Int), false, cLLI⟩
def tLS : TE := ⟨List ByteArray, false, cLS⟩
def tA6Hex : TE := ⟨A6Hex, true, cA6Hex⟩
def tbl : Tbl := tblAt [(22, tLY), (5, tY), (4, tB), (3, tI), (31, tBoard), (30, tBoard), (26, tRules), (25, tRules), (23, tLTerrain), (121, tTerrain), (120, tTerrain), (9, tS), (27, tLI), (24, tLKind), (110, tKind), (109, tKind), (29, tMap), (28, tMap), (34, tState), (33, tState), (32, tLUnit), (80, tUnit), (79, tUnit), (64, tl1Cur), (63, tl1Cur), (62, tU64), (72, tLB), (82, tA2I), (105, tLA2I), (118, tHex), (117, tHex), (132, tLLI), (137, tLS), (119, tA6Hex)]
def rowAt : List ((Nat × Nat) × Nat) → Nat → Nat → Option TypeId
  | [], _, _ => none
  | (a, h) :: r, f, i => bif Nat.beq a.1 f && Nat.beq a.2 i then some h else rowAt r f i
def rowTab : List ((Nat × Nat) × Nat) := [((3, 0), 5), ((3, 1), 5), ((3, 8), 3), ((3, 17), 3), ((3, 18), 3), ((3, 20), 3), ((3, 32), 3), ((3, 34), 3), ((3, 47), 5), ((3, 49), 5), ((3, 54), 5), ((3, 59), 3), ((3, 64), 3), ((3, 72), 3), ((3, 77), 5), ((3, 83), 3), ((3, 89), 3), ((3, 91), 3), ((3, 98), 3), ((3, 100), 3), ((3, 103), 5), ((3, 140), 3), ((3, 141), 3), ((3, 155), 3), ((3, 165), 3), ((3, 177), 3), ((3, 179), 3), ((3, 186), 3), ((3, 194), 3), ((3, 204), 3), ((3, 212), 3), ((3, 200005), 121), ((3, 300005), 110), ((3, 400005), 3), ((3, 500005), 3), ((3, 600005), 3), ((3, 200006), 80), ((3, 200009), 80), ((3, 200011), 80), ((3, 200013), 121), ((3, 300013), 110), ((3, 400013), 3), ((3, 500013), 3), ((3, 600013), 3), ((3, 200014), 80), ((3, 200022), 121), ((3, 300022), 110), ((3, 400022), 3), ((3, 500022), 3), ((3, 600022), 3), ((3, 200023), 80), ((4, 0), 5), ((4, 5), 3), ((4, 6), 5), ((4, 11), 3), ((4, 200002), 121), ((4, 300002), 110), ((4, 400002), 3), ((4, 500002), 3), ((4, 600002), 3), ((4, 200003), 80), ((5, 3), 3), ((5, 21), 3), ((5, 29), 3), ((5, 200004), 121), ((5, 300004), 110), ((5, 400004), 3), ((5, 500004), 3), ((5, 600004), 3), ((5, 200005), 80), ((5, 200008), 80), ((6, 3), 3), ((6, 21), 3), ((6, 29), 3), ((6, 200004), 121), ((6, 300004), 110), ((6, 400004), 3), ((6, 500004), 3), ((6, 600004), 3), ((6, 200005), 80), ((6, 200008), 80), ((7, 0), 5), ((7, 6), 3), ((7, 10), 5), ((7, 21), 3), ((7, 29), 3), ((7, 200002), 121), ((7, 300002), 110), ((7, 400002), 3), ((7, 500002), 3), ((7, 600002), 3), ((7, 200003), 80), ((7, 200012), 5), ((7, 100015), 80), ((7, 200008), 121), ((7, 300008), 110), ((7, 400008), 3), ((7, 500008), 3), ((7, 600008), 3), ((7, 200009), 80), ((7, 100029), 3), ((8, 4), 3), ((8, 10), 3), ((8, 25), 110), ((8, 32), 3), ((8, 42), 4), ((8, 43), 3), ((8, 44), 3), ((8, 200005), 121), ((8, 300005), 110), ((8, 400005), 3), ((8, 500005), 3), ((8, 600005), 3), ((8, 200006), 80), ((9, 4), 3), ((9, 10), 3), ((9, 25), 110), ((9, 33), 3), ((9, 43), 4), ((9, 44), 3), ((9, 45), 3), ((9, 200005), 121), ((9, 300005), 110), ((9, 400005), 3), ((9, 500005), 3), ((9, 600005), 3), ((9, 200006), 80), ((10, 0), 5), ((10, 6), 5), ((10, 200002), 121), ((10, 300002), 110), ((10, 400002), 3), ((10, 500002), 3), ((10, 600002), 3), ((10, 200003), 80), ((11, 200004), 121), ((11, 300004), 110), ((11, 400004), 3), ((11, 500004), 3), ((11, 600004), 3), ((11, 200005), 80), ((12, 200004), 121), ((12, 300004), 110), ((12, 400004), 3), ((12, 500004), 3), ((12, 600004), 3), ((12, 200005), 80), ((13, 19), 80), ((13, 21), 80), ((13, 200002), 80), ((13, 200003), 80), ((14, 0), 3), ((14, 1), 3), ((14, 6), 3), ((14, 8), 3), ((14, 11), 3), ((14, 16), 3), ((14, 20), 3), ((15, 0), 3), ((15, 7), 3), ((16, 3), 3), ((16, 8), 3), ((16, 10), 3), ((16, 24), 3), ((16, 28), 3), ((16, 31), 3), ((16, 40), 80), ((16, 44), 3), ((16, 47), 3), ((16, 49), 3), ((16, 50), 3), ((16, 52), 3), ((16, 200004), 121), ((16, 300004), 110), ((16, 400004), 3), ((16, 500004), 3), ((16, 600004), 3), ((16, 200005), 80), ((17, 6), 3), ((17, 19), 3), ((17, 200003), 121), ((17, 300003), 110), ((17, 400003), 3), ((17, 500003), 3), ((17, 600003), 3), ((17, 200004), 80), ((18, 3), 3), ((18, 13), 3), ((18, 19), 80), ((18, 23), 3), ((18, 200004), 121), ((18, 300004), 110), ((18, 400004), 3), ((18, 500004), 3), ((18, 600004), 3), ((18, 200005), 80), ((19, 16), 80), ((19, 200002), 121), ((19, 300002), 110), ((19, 400002), 3), ((19, 500002), 3), ((19, 600002), 3), ((19, 200003), 80), ((20, 0), 5), ((20, 5), 3), ((20, 9), 5), ((20, 20), 3), ((20, 25), 3), ((20, 200002), 121), ((20, 300002), 110), ((20, 400002), 3), ((20, 500002), 3), ((20, 600002), 3), ((20, 200003), 80), ((20, 200011), 5), ((20, 100014), 80), ((20, 200007), 121), ((20, 300007), 110), ((20, 400007), 3), ((20, 500007), 3), ((20, 600007), 3), ((20, 200008), 80), ((20, 100025), 3), ((21, 200002), 121), ((21, 300002), 110), ((21, 400002), 3), ((21, 500002), 3), ((21, 600002), 3), ((21, 200003), 80), ((23, 1), 3), ((23, 5), 3), ((23, 9), 3), ((23, 13), 3), ((23, 200002), 121), ((23, 300002), 110), ((23, 400002), 3), ((23, 500002), 3), ((23, 600002), 3), ((24, 3), 3), ((24, 16), 3), ((24, 25), 80), ((24, 29), 3), ((24, 200004), 121), ((24, 300004), 110), ((24, 400004), 3), ((24, 500004), 3), ((24, 600004), 3), ((24, 200005), 80), ((24, 200008), 80), ((24, 100013), 80), ((24, 200009), 80), ((25, 29), 80), ((25, 34), 80), ((25, 46), 80), ((25, 62), 3), ((25, 71), 3), ((25, 200002), 121), ((25, 300002), 110), ((25, 400002), 3), ((25, 500002), 3), ((25, 600002), 3), ((25, 200003), 80), ((27, 1), 3), ((27, 5), 3), ((27, 9), 3), ((27, 200002), 121), ((27, 300002), 110), ((27, 400002), 3), ((27, 500002), 3), ((27, 600002), 3), ((28, 3), 3), ((28, 16), 3), ((28, 25), 3), ((28, 200004), 121), ((28, 300004), 110), ((28, 400004), 3), ((28, 500004), 3), ((28, 600004), 3), ((28, 200005), 80), ((28, 200008), 80), ((28, 100013), 80), ((28, 200009), 80), ((29, 200002), 121), ((29, 300002), 110), ((29, 400002), 3), ((29, 500002), 3), ((29, 600002), 3), ((29, 200003), 80), ((29, 200004), 121), ((29, 300004), 110), ((29, 400004), 3), ((29, 500004), 3), ((29, 600004), 3), ((29, 100010), 80), ((30, 1), 3), ((30, 5), 3), ((30, 7), 3), ((31, 8), 110), ((31, 200003), 121), ((31, 300003), 110), ((31, 400003), 3), ((31, 500003), 3), ((31, 600003), 3), ((32, 6), 3), ((32, 7), 3), ((32, 21), 3), ((32, 26), 3), ((32, 28), 80), ((32, 36), 80), ((32, 39), 80), ((32, 47), 3), ((32, 49), 3), ((32, 54), 3), ((32, 56), 3), ((32, 58), 3), ((32, 59), 3), ((32, 64), 3), ((32, 68), 3), ((32, 69), 3), ((32, 200004), 121), ((32, 300004), 110), ((32, 400004), 3), ((32, 500004), 3), ((32, 600004), 3), ((32, 200005), 80), ((32, 100026), 3), ((32, 100049), 3), ((34, 1), 4), ((34, 2), 3), ((34, 6), 3), ((34, 7), 3), ((34, 8), 3), ((34, 15), 4), ((34, 17), 3), ((34, 18), 3), ((34, 19), 3), ((34, 24), 3), ((34, 28), 3), ((34, 34), 4), ((34, 38), 3), ((34, 41), 3), ((34, 43), 3), ((34, 44), 3), ((34, 47), 3), ((34, 53), 3), ((34, 57), 3), ((34, 63), 4), ((34, 68), 3), ((34, 74), 3), ((34, 76), 3), ((34, 77), 3), ((34, 85), 3), ((34, 87), 3), ((34, 88), 3), ((34, 90), 3), ((34, 200003), 3), ((34, 300003), 3), ((34, 400003), 3), ((35, 8), 4), ((35, 9), 4), ((35, 11), 4), ((35, 14), 3), ((35, 19), 4), ((35, 33), 4), ((35, 34), 4), ((35, 36), 4), ((35, 200004), 121), ((35, 300004), 110), ((35, 400004), 3), ((35, 500004), 3), ((35, 600004), 3), ((35, 200005), 80), ((36, 1), 4), ((36, 2), 3), ((36, 6), 3), ((36, 7), 3), ((36, 9), 3), ((36, 15), 4), ((36, 17), 3), ((36, 18), 3), ((36, 23), 3), ((36, 27), 3), ((36, 33), 4), ((36, 37), 3), ((36, 40), 3), ((36, 42), 3), ((36, 43), 3), ((36, 46), 3), ((36, 56), 3), ((36, 65), 4), ((36, 71), 3), ((36, 77), 3), ((36, 79), 3), ((36, 80), 3), ((36, 88), 3), ((36, 90), 3), ((36, 91), 3), ((36, 92), 3), ((36, 200003), 3), ((36, 300003), 3), ((36, 400003), 3), ((37, 8), 4), ((37, 9), 4), ((37, 14), 4), ((37, 15), 4), ((37, 20), 4), ((37, 37), 4), ((37, 200004), 121), ((37, 300004), 110), ((37, 400004), 3), ((37, 500004), 3), ((37, 600004), 3), ((37, 200005), 80), ((38, 0), 5), ((38, 9), 5), ((38, 20), 3), ((38, 200002), 121), ((38, 300002), 110), ((38, 400002), 3), ((38, 500002), 3), ((38, 600002), 3), ((38, 200003), 80), ((38, 200011), 5), ((38, 100014), 80), ((38, 200007), 121), ((38, 300007), 110), ((38, 400007), 3), ((38, 500007), 3), ((38, 600007), 3), ((38, 200008), 80), ((39, 200003), 121), ((39, 300003), 110), ((39, 400003), 3), ((39, 500003), 3), ((39, 600003), 3), ((39, 200004), 80), ((40, 200004), 121), ((40, 300004), 110), ((40, 400004), 3), ((40, 500004), 3), ((40, 600004), 3), ((40, 200005), 80), ((41, 200003), 121), ((41, 300003), 110), ((41, 400003), 3), ((41, 500003), 3), ((41, 600003), 3), ((41, 200004), 80), ((42, 200004), 121), ((42, 300004), 110), ((42, 400004), 3), ((42, 500004), 3), ((42, 600004), 3), ((42, 200005), 80), ((43, 0), 80), ((43, 1), 80), ((43, 6), 80), ((43, 8), 80), ((43, 11), 80), ((43, 16), 80), ((43, 20), 80), ((44, 4), 3), ((44, 5), 3), ((44, 8), 3), ((44, 10), 80), ((44, 26), 3), ((44, 28), 3), ((44, 29), 3), ((44, 31), 3), ((44, 200002), 80), ((45, 3), 3), ((45, 17), 4), ((45, 18), 3), ((45, 200004), 121), ((45, 300004), 110), ((45, 400004), 3), ((45, 500004), 3), ((45, 600004), 3), ((45, 200005), 80), ((46, 3), 3), ((46, 15), 3), ((46, 200004), 121), ((46, 300004), 110), ((46, 400004), 3), ((46, 500004), 3), ((46, 600004), 3), ((46, 200005), 80), ((47, 15), 3), ((47, 200001), 121), ((47, 300001), 110), ((47, 400001), 3), ((47, 500001), 3), ((47, 600001), 3), ((48, 5), 82), ((48, 23), 80), ((48, 29), 82), ((48, 31), 80), ((48, 44), 82), ((48, 55), 82), ((48, 66), 82), ((48, 200002), 121), ((48, 300002), 110), ((48, 400002), 3), ((48, 500002), 3), ((48, 600002), 3), ((48, 200003), 80), ((50, 0), 3), ((50, 5), 3), ((50, 10), 3), ((50, 15), 3), ((51, 0), 3), ((51, 5), 3), ((53, 5), 3), ((53, 200001), 121), ((53, 300001), 110), ((53, 400001), 3), ((53, 500001), 3), ((53, 600001), 3), ((54, 4), 80), ((54, 5), 80), ((54, 200001), 80), ((54, 200002), 80), ((54, 100005), 80), ((55, 8), 80), ((55, 0), 80), ((55, 200003), 80), ((56, 14), 3), ((56, 17), 121), ((56, 200001), 121), ((56, 300001), 110), ((56, 400001), 3), ((56, 500001), 3), ((56, 600001), 3), ((57, 14), 110), ((57, 25), 110), ((57, 200002), 121), ((57, 300002), 110), ((57, 400002), 3), ((57, 500002), 3), ((57, 600002), 3), ((58, 6), 3), ((58, 7), 3), ((58, 11), 80), ((58, 28), 3), ((58, 30), 3), ((58, 31), 3), ((58, 33), 3), ((58, 200003), 80), ((59, 0), 3), ((59, 9), 3), ((59, 25), 3), ((60, 200001), 3), ((60, 300001), 3), ((60, 400001), 3), ((61, 7), 80), ((61, 9), 80), ((61, 10), 80), ((61, 200001), 80), ((61, 200002), 80), ((62, 4), 3), ((62, 5), 3), ((62, 9), 80), ((62, 25), 3), ((62, 27), 3), ((62, 28), 3), ((62, 30), 3), ((62, 200002), 80), ((63, 3), 3), ((63, 10), 4), ((63, 11), 3), ((63, 13), 80), ((63, 24), 3), ((63, 26), 4), ((63, 27), 3), ((63, 28), 3), ((63, 200004), 121), ((63, 300004), 110), ((63, 400004), 3), ((63, 500004), 3), ((63, 600004), 3), ((63, 200005), 80), ((64, 7), 80), ((64, 10), 80), ((64, 21), 80), ((64, 28), 80), ((64, 0), 80), ((64, 200003), 80), ((65, 200002), 121), ((65, 300002), 110), ((65, 400002), 3), ((65, 500002), 3), ((65, 600002), 3), ((65, 200003), 121), ((65, 300003), 110), ((65, 400003), 3), ((65, 500003), 3), ((65, 600003), 3), ((66, 11), 80), ((66, 18), 80), ((66, 33), 3), ((66, 39), 3), ((66, 45), 80), ((66, 51), 3), ((66, 58), 80), ((66, 61), 3), ((66, 68), 80), ((66, 71), 3), ((66, 78), 80), ((66, 85), 80), ((66, 87), 80), ((66, 88), 80), ((66, 200003), 121), ((66, 300003), 110), ((66, 400003), 3), ((66, 500003), 3), ((66, 600003), 3), ((66, 200004), 80), ((66, 100015), 80), ((66, 200005), 80), ((69, 13), 3), ((69, 21), 3), ((69, 27), 3), ((69, 33), 3), ((69, 200001), 3), ((69, 300001), 3), ((69, 400001), 3), ((70, 0), 3), ((70, 4), 3), ((70, 6), 3), ((70, 8), 3), ((70, 12), 3), ((70, 22), 3), ((70, 26), 3), ((70, 33), 3), ((70, 34), 3), ((70, 35), 3), ((70, 37), 3), ((70, 38), 3), ((70, 39), 3), ((70, 41), 3), ((70, 42), 3), ((70, 43), 3), ((70, 44), 3), ((70, 46), 3), ((70, 47), 3), ((71, 10), 3), ((71, 200003), 3), ((71, 300003), 3), ((71, 400003), 3), ((73, 4), 3), ((73, 5), 3), ((73, 8), 3), ((73, 18), 3), ((73, 20), 3), ((73, 21), 3), ((73, 23), 3), ((73, 200002), 3), ((73, 300002), 3), ((73, 400002), 3), ((74, 10), 3), ((74, 200003), 121), ((74, 300003), 110), ((74, 400003), 3), ((74, 500003), 3), ((74, 600003), 3), ((75, 200003), 3), ((75, 300003), 3), ((75, 400003), 3), ((76, 10), 3), ((76, 200003), 121), ((76, 300003), 110), ((76, 400003), 3), ((76, 500003), 3), ((76, 600003), 3), ((77, 8), 80), ((77, 16), 80), ((77, 19), 80), ((77, 33), 3), ((77, 200004), 121), ((77, 300004), 110), ((77, 400004), 3), ((77, 500004), 3), ((77, 600004), 3), ((77, 200005), 80), ((78, 8), 80), ((78, 200002), 80), ((79, 12), 80), ((79, 200004), 121), ((79, 300004), 110), ((79, 400004), 3), ((79, 500004), 3), ((79, 600004), 3), ((79, 200005), 80), ((80, 8), 80), ((80, 200002), 80), ((81, 13), 3), ((81, 200004), 121), ((81, 300004), 110), ((81, 400004), 3), ((81, 500004), 3), ((81, 600004), 3), ((81, 200005), 80), ((82, 2), 4), ((82, 3), 3), ((82, 15), 4), ((82, 16), 3), ((82, 17), 3), ((82, 200004), 121), ((82, 300004), 110), ((82, 400004), 3), ((82, 500004), 3), ((82, 600004), 3), ((83, 13), 80), ((83, 200003), 121), ((83, 300003), 110), ((83, 400003), 3), ((83, 500003), 3), ((83, 600003), 3), ((83, 200004), 80), ((84, 8), 121), ((84, 14), 110), ((84, 20), 121), ((84, 29), 110), ((84, 35), 121), ((84, 44), 110), ((84, 56), 110), ((84, 200001), 121), ((84, 300001), 110), ((84, 200004), 3), ((85, 6), 3), ((85, 21), 3), ((85, 31), 3), ((85, 42), 3), ((85, 44), 3), ((85, 45), 27), ((85, 50), 3), ((85, 51), 3), ((85, 54), 3), ((85, 200001), 3), ((85, 300001), 3), ((85, 400001), 3), ((86, 7), 121), ((87, 14), 110), ((87, 24), 110), ((87, 200002), 121), ((87, 300002), 110), ((87, 400002), 3), ((87, 500002), 3), ((87, 600002), 3), ((88, 0), 3), ((88, 6), 3), ((88, 12), 3), ((89, 0), 80), ((89, 2), 80), ((89, 3), 80), ((89, 5), 80), ((89, 6), 80), ((89, 7), 80), ((90, 8), 121), ((90, 14), 110), ((90, 20), 121), ((90, 33), 121), ((90, 42), 3), ((90, 45), 110), ((90, 51), 3), ((90, 69), 110), ((90, 82), 110), ((90, 200001), 121), ((90, 300001), 110), ((90, 200004), 3), ((91, 0), 3), ((91, 9), 3), ((92, 3), 3), ((92, 8), 4), ((92, 9), 3), ((92, 11), 4), ((92, 13), 80), ((92, 23), 4), ((92, 24), 4), ((92, 27), 4), ((92, 28), 3), ((92, 29), 3), ((92, 200004), 121), ((92, 300004), 110), ((92, 400004), 3), ((92, 500004), 3), ((92, 600004), 3), ((92, 200005), 80), ((93, 9), 121), ((93, 200002), 121), ((93, 300002), 110), ((93, 400002), 3), ((93, 500002), 3), ((93, 600002), 3), ((93, 100005), 121), ((93, 200005), 110), ((93, 200003), 121), ((93, 300003), 110), ((93, 100011), 3), ((93, 200011), 3), ((93, 300011), 3), ((94, 11), 121), ((94, 14), 3), ((94, 16), 3), ((94, 22), 121), ((94, 24), 9), ((94, 31), 110), ((94, 33), 3), ((94, 40), 110), ((94, 42), 110), ((94, 45), 110), ((94, 46), 110), ((94, 51), 3), ((94, 57), 3), ((94, 63), 121), ((94, 65), 3), ((94, 200002), 121), ((94, 300002), 110), ((94, 100005), 121), ((94, 200005), 110), ((94, 200003), 121), ((94, 300003), 110), ((95, 14), 3), ((95, 20), 3), ((95, 22), 3), ((95, 28), 3), ((95, 37), 3), ((95, 39), 3), ((95, 40), 3), ((95, 44), 3), ((95, 46), 3), ((95, 47), 3), ((95, 200002), 3), ((95, 300002), 3), ((95, 400002), 3), ((95, 100005), 3), ((95, 200005), 3), ((95, 300005), 3), ((95, 200003), 3), ((95, 300003), 3), ((95, 400003), 3), ((96, 30), 110), ((96, 37), 110), ((96, 55), 80), ((96, 57), 80), ((96, 58), 80), ((96, 65), 80), ((96, 67), 80), ((96, 200003), 121), ((96, 300003), 110), ((96, 400003), 3), ((96, 500003), 3), ((96, 600003), 3), ((96, 200004), 80), ((96, 200005), 80), ((97, 11), 5), ((97, 17), 5), ((97, 51), 5), ((98, 1), 3), ((98, 7), 3), ((98, 30), 3), ((98, 200002), 3), ((98, 300002), 3), ((98, 400002), 3), ((99, 200003), 3), ((99, 300003), 3), ((99, 400003), 3), ((100, 7), 121), ((100, 10), 3), ((100, 200002), 121), ((100, 300002), 110), ((100, 400002), 3), ((100, 500002), 3), ((100, 600002), 3), ((100, 200004), 3), ((101, 200002), 3), ((101, 300002), 3), ((101, 400002), 3), ((102, 7), 3), ((102, 14), 3), ((103, 200002), 3), ((103, 300002), 3), ((103, 400002), 3), ((104, 7), 121), ((104, 10), 3), ((104, 200002), 121), ((104, 300002), 110), ((104, 400002), 3), ((104, 500002), 3), ((104, 600002), 3), ((104, 200004), 3), ((105, 14), 110), ((105, 200003), 121), ((105, 300003), 110), ((105, 400003), 3), ((105, 500003), 3), ((105, 600003), 3), ((106, 8), 3), ((106, 9), 3), ((106, 13), 80), ((106, 31), 3), ((106, 33), 3), ((106, 34), 3), ((106, 36), 3), ((106, 200004), 121), ((106, 300004), 110), ((106, 400004), 3), ((106, 500004), 3), ((106, 600004), 3), ((106, 200005), 80), ((107, 11), 3), ((107, 29), 3), ((107, 200002), 3), ((108, 0), 121), ((108, 5), 121), ((110, 0), 110), ((110, 5), 110), ((111, 200002), 3), ((111, 300002), 3), ((111, 400002), 3), ((113, 0), 121), ((113, 7), 121), ((113, 200006), 3), ((114, 0), 110), ((114, 7), 110), ((115, 3), 110), ((115, 5), 9), ((115, 43), 110), ((115, 44), 110), ((115, 48), 110), ((115, 61), 9), ((115, 70), 9), ((115, 73), 9), ((115, 93), 110), ((115, 102), 3), ((115, 104), 3), ((115, 105), 3), ((115, 109), 121), ((115, 111), 121), ((115, 112), 121), ((115, 200002), 121), ((115, 300002), 110), ((115, 200004), 121), ((115, 300004), 110), ((115, 200007), 3), ((116, 27), 3), ((116, 29), 3), ((116, 30), 3), ((116, 34), 3), ((116, 38), 3), ((116, 200004), 3), ((116, 300004), 3), ((116, 400004), 3), ((116, 200005), 3), ((116, 300005), 3), ((116, 400005), 3), ((116, 100034), 3), ((116, 100038), 3), ((117, 1), 9), ((117, 5), 9), ((117, 7), 9), ((118, 200002), 3), ((118, 300002), 3), ((118, 400002), 3), ((120, 200002), 3), ((120, 300002), 3), ((120, 400002), 3), ((121, 6), 3), ((121, 12), 3), ((121, 200002), 3), ((121, 300002), 3), ((121, 400002), 3), ((122, 200003), 3), ((122, 300003), 3), ((122, 400003), 3), ((123, 12), 80), ((123, 22), 110), ((123, 200004), 121), ((123, 300004), 110), ((123, 400004), 3), ((123, 500004), 3), ((123, 600004), 3), ((123, 200005), 80), ((126, 0), 121), ((126, 6), 121), ((126, 12), 121), ((127, 200002), 3), ((128, 0), 110), ((128, 6), 110), ((128, 12), 110), ((130, 4), 3), ((130, 5), 3), ((130, 26), 3), ((130, 31), 3), ((130, 32), 3), ((130, 200003), 3), ((130, 300003), 3), ((130, 400003), 3), ((130, 100031), 3), ((131, 0), 3), ((131, 5), 3), ((132, 8), 3), ((132, 200003), 3), ((132, 300003), 3), ((132, 400003), 3), ((133, 8), 3), ((133, 200003), 3), ((133, 300003), 3), ((133, 400003), 3), ((134, 200003), 3), ((134, 300003), 3), ((134, 400003), 3), ((135, 0), 3), ((135, 6), 3), ((135, 12), 3), ((136, 0), 3), ((136, 7), 3)]
def capAt : List (Nat × List (Option TypeId)) → Nat → List (Option TypeId)
  | [], _ => []
  | (a, h) :: r, f => bif Nat.beq a f then h else capAt r f
def ke29 : KE := ⟨DBoard × DState, fun a => .tup [.agg [slc cTerrain a.1.Rules.Terrains, slc cKind a.1.Rules.Kinds, I a.1.Rules.Stack, I a.1.Rules.River, I a.1.Rules.Road, I a.1.Rules.Supply, I a.1.Rules.Turns, I a.1.Map.Width, I a.1.Map.Height, slc cI a.1.Map.Terrain, slc cI a.1.Map.Rivers, slc cI a.1.Map.Roads], .agg [I a.2.Turn, I a.2.Weather, .own (.r 0 0) none 0 a.2.Units.length a.2.Units.length]], fun a => [(.r 0 0, some (rowB true false 4 cUnit a.2.Units))]⟩
def ke32 : KE := ⟨(List Int) × List Int, fun a => .own (.r 0 0) none 0 a.1.length (a.1.length + a.2.length), fun a => [(.r 0 0, some (rowB true false 1 cI (a.1 ++ a.2)))]⟩
def ke54 : KE := ⟨DState, fun a => .agg [I a.Turn, I a.Weather, .own (.r 0 0) none 0 a.Units.length a.Units.length], fun a => [(.r 0 0, some (rowB true false 4 cUnit a.Units))]⟩
def ke61 : KE := ⟨DState, fun a => .agg [I a.Turn, I a.Weather, .own (.r 0 0) none 0 a.Units.length a.Units.length], fun a => [(.r 0 0, some (rowB true false 4 cUnit a.Units))]⟩
def ke66 : KE := ⟨DState, fun a => .agg [I a.Turn, I a.Weather, .own (.r 0 0) none 0 a.Units.length a.Units.length], fun a => [(.r 0 0, some (rowB true false 4 cUnit a.Units))]⟩
def ke70 : KE := ⟨List Int, fun a => .own (.r 0 0) none 0 a.length a.length, fun a => [(.r 0 0, some (rowB true false 1 cI a))]⟩
def kl70 : KE := ⟨Nat, fun a => .own (.l 0) none 0 a a, fun _ => []⟩
def ke89 : KE := ⟨List DUnit, fun a => .own (.r 0 0) none 0 a.length a.length, fun a => [(.r 0 0, some (rowB true false 4 cUnit a))]⟩
def ke96 : KE := ⟨DState, fun a => .agg [I a.Turn, I a.Weather, .own (.r 0 0) none 0 a.Units.length a.Units.length], fun a => [(.r 0 0, some (rowB true false 4 cUnit a.Units))]⟩
def cTerrainN (x : DTerrain) : List AV := [S x.Name, .nst 1 x.Cost.length (x.Cost.flatMap cI), I x.Shift, I x.Height, B x.Blocks]
def ke115 : KE := ⟨(DRules) × List DKind, fun a => .agg [.own (.r 0 0) none 0 a.1.Terrains.length a.1.Terrains.length, .own (.r 0 1) none 0 a.1.Kinds.length (a.1.Kinds.length + a.2.length), I a.1.Stack, I a.1.River, I a.1.Road, I a.1.Supply, I a.1.Turns], fun a => [(.r 0 0, some (rowB true true 5 cTerrainN a.1.Terrains)), (.r 0 1, some (rowB true false 6 cKind (a.1.Kinds ++ a.2)))]⟩
def ke116 : KE := ⟨DMap, fun a => .agg [I a.Width, I a.Height, .own (.r 0 0) none 0 a.Terrain.length a.Terrain.length, .own (.r 0 1) none 0 a.Rivers.length a.Rivers.length, .own (.r 0 2) none 0 a.Roads.length a.Roads.length], fun a => [(.r 0 0, some (rowB true false 1 cI a.Terrain)), (.r 0 1, some (rowB true false 1 cI a.Rivers)), (.r 0 2, some (rowB true false 1 cI a.Roads))]⟩
def ke130 : KE := ⟨List Int, fun a => .own (.r 0 0) none 0 a.length a.length, fun a => [(.r 0 0, some (rowB true false 1 cI a))]⟩
def tnTerrain : TE := ⟨DTerrain, true, cTerrainN⟩
def tblN : Tbl := tblAt [(121, tnTerrain), (120, tnTerrain)]
def T : Hn := { t := tbl, row := fun f id => match id with | .v t => rowAt rowTab f t | .h t k => (rowAt rowTab f (t + 100000 * (k + 1))).or (rowAt rowTab f t) | .r t k => (rowAt rowTab f (t + 100000 * (k + 1))).or (rowAt rowTab f t) | .l i => rowAt rowTab f i, n := tblN, cap := capAt [(52, [some 31]), (86, [some 31]), (127, [some 9]), (129, [some 9])], kept := fun f _ => bif Nat.beq f 29 then [ke29] else bif Nat.beq f 32 then [ke32] else bif Nat.beq f 54 then [ke54] else bif Nat.beq f 61 then [ke61] else bif Nat.beq f 66 then [ke66] else bif Nat.beq f 70 then [kl70, ke70] else bif Nat.beq f 89 then [ke89] else bif Nat.beq f 96 then [ke96] else bif Nat.beq f 115 then [ke115] else bif Nat.beq f 116 then [ke116] else bif Nat.beq f 130 then [ke130] else [] }
def hintAt : List ((Nat × Nat) × List (Nat × Option Nat)) → Nat → Nat → List (Nat × Option Nat)
  | [], _, _ => []
  | (a, h) :: r, f, i => bif Nat.beq a.1 f && Nat.beq a.2 i then h else hintAt r f i
def hints : List ((Nat × Nat) × List (Nat × Option Nat)) := [((3, 15), [(5, none), (6, none), (7, none), (8, none), (9, none), (10, none), (17, none), (155, none), (156, none), (157, none)]), ((3, 28), [(5, none), (6, none), (8, none), (9, none), (32, none), (36, none), (194, none), (195, none), (196, none)]), ((14, 4), [(0, none), (1, none), (12, none), (13, none)]), ((15, 2), [(1, none), (7, none), (8, none), (9, none)]), ((16, 5), [(3, none), (4, none), (5, none), (10, some 1), (31, none), (32, none), (33, none)]), ((19, 5), [(7, none), (16, none), (17, none), (18, none)]), ((24, 3), [(3, none), (4, none), (5, none), (8, none), (9, none), (16, none), (17, none), (18, none)]), ((25, 4), [(2, none), (3, none), (34, none), (35, none), (36, none)]), ((25, 10), [(2, none), (3, none), (46, none), (47, none), (48, none)]), ((28, 3), [(3, none), (4, none), (5, none), (8, none), (9, none), (16, none), (17, none), (18, none)]), ((32, 3), [(0, none), (4, none), (5, none), (7, some 1), (8, none)]), ((34, 3), [(1, none), (2, none), (3, none), (7, none), (8, none), (20, none), (21, none)]), ((34, 8), [(1, none), (3, none), (7, none), (8, some 1), (28, none), (29, none), (30, none)]), ((34, 15), [(1, none), (3, none), (7, none), (8, some 1), (12, none)]), ((34, 18), [(1, none), (3, none), (7, none), (8, some 1), (12, none), (57, none), (58, none), (59, none)]), ((35, 3), [(2, none), (3, none), (4, none), (5, none), (9, some 1), (15, none), (16, none)]), ((36, 3), [(1, none), (2, none), (3, none), (7, none), (19, none), (20, none)]), ((36, 9), [(1, none), (3, none), (7, none), (9, some 1), (27, none), (28, none), (29, none)]), ((36, 16), [(1, none), (3, none), (7, none), (9, some 1), (12, none)]), ((36, 19), [(1, none), (3, none), (7, none), (9, some 1), (12, none), (13, none)]), ((37, 3), [(2, none), (3, none), (4, none), (5, none), (9, none), (16, none), (17, none)]), ((43, 4), [(0, none), (1, none), (12, none), (13, none)]), ((44, 3), [(1, none), (5, some 1), (10, none), (11, none), (12, none)]), ((48, 5), [(2, none), (5, none), (31, none), (32, none), (33, none)]), ((50, 2), [(0, none), (3, none)]), ((58, 3), [(1, none), (2, none), (7, some 1), (11, none), (12, none), (13, none)]), ((59, 2), [(0, none), (1, none), (2, none), (9, none), (10, none), (11, none)]), ((62, 3), [(1, none), (5, some 1), (9, none), (10, none), (11, none)]), ((66, 17), [(0, none), (4, none), (5, none), (1005002, some 4)]), ((70, 2), [(0, none), (1, none), (5, none)]), ((73, 3), [(1, none), (2, none), (5, some 1), (9, none)]), ((78, 2), [(1, none), (8, none), (9, none), (10, none)]), ((79, 2), [(2, none), (3, none), (4, none), (12, none), (13, none), (14, none)]), ((80, 2), [(1, none), (8, none), (9, none), (10, none)]), ((84, 4), [(1, none), (20, none), (21, none), (22, none)]), ((84, 10), [(1, none), (44, none), (45, none), (46, none)]), ((85, 4), [(1, none), (31, none), (32, none), (33, none)]), ((85, 10), [(1, none), (45, none), (46, none), (47, none)]), ((85, 15), [(1, none), (45, none), (46, none), (47, none), (54, none), (55, none), (56, none)]), ((88, 2), [(0, none), (1, none), (7, none), (8, none)]), ((90, 4), [(1, none), (20, none), (21, none), (22, none)]), ((90, 10), [(1, none), (69, none), (70, none), (71, none)]), ((91, 2), [(1, none), (2, none), (9, none), (10, none), (11, none)]), ((96, 3), [(0, none), (3, none), (4, none), (5, none), (6, none), (1005002, some 4)]), ((98, 2), [(1, none), (2, none), (7, none), (8, none), (9, none)]), ((105, 4), [(2, none), (3, none), (4, none), (30, none)]), ((106, 3), [(2, none), (3, none), (4, none), (5, none), (9, some 1), (13, none), (14, none), (15, none)]), ((112, 2), [(0, none), (3, none)]), ((113, 2), [(1, none), (7, none), (8, none), (9, none)]), ((114, 2), [(1, none), (7, none), (8, none), (9, none)]), ((115, 5), [(0, none), (2, none), (4, none), (5, none), (6, none), (1004000, some 1005)]), ((115, 10), [(0, none), (2, none), (4, none), (5, none), (6, none), (7, none), (94, none), (95, none), (1007001, some 1)]), ((116, 3), [(0, none), (1, none), (4, none), (5, none), (6, none), (1005002, some 1)]), ((123, 5), [(3, none), (4, none), (9, none), (10, none)]), ((124, 2), [(0, none), (3, none)]), ((126, 2), [(0, none), (1, none), (7, none), (8, none)]), ((128, 2), [(0, none), (1, none), (7, none), (8, none)]), ((130, 3), [(0, none), (3, none), (5, some 1), (6, none)]), ((135, 2), [(0, none), (1, none), (7, none), (8, none)]), ((136, 2), [(1, none), (7, none), (8, none), (9, none)]), ((89, 1000002), [(0, none)]), ((29, 1000000), [(0, some 5), (1, some 6), (9, some 1), (10, some 1), (11, some 1), (102, some 4)]), ((32, 1000000), [(0, some 1)]), ((32, 1000001), [(0, none)]), ((54, 1000000), [(2, some 4)]), ((54, 1000001), [(0, none)]), ((61, 1000000), [(2, some 4)]), ((61, 1000001), [(0, none)]), ((66, 1000000), [(2, some 4)]), ((66, 1000001), [(0, none)]), ((70, 1000000), [(0, some 1)]), ((70, 1000001), [(0, none)]), ((89, 1000000), [(0, some 4)]), ((89, 1000001), [(0, none)]), ((96, 1000000), [(2, some 4)]), ((96, 1000001), [(0, none)]), ((115, 1000000), [(0, some 1005), (1, some 6)]), ((116, 1000000), [(2, some 1), (3, some 1), (4, some 1)]), ((116, 1000001), [(0, none)]), ((130, 1000000), [(0, some 1)]), ((130, 1000001), [(0, none)])]
variable [Inhabited Known]
noncomputable def G : Cfg := { kn := (default : Known).kn, P := Tryz.prog, glob := fun g => bif Nat.beq g 0 then some [I 1, I 0, I 1, I (-1), I 0, I (-1), I (-1), I 0, I (-1), I 1, I 0, I 1] else none, lend := fun f i => (Nat.beq f 70 && Nat.beq i 0) || (Nat.beq f 55 && Nat.beq i 0) || (Nat.beq f 64 && Nat.beq i 0), keep := fun f => Nat.beq f 70 || Nat.beq f 130 || Nat.beq f 116 || Nat.beq f 115 || Nat.beq f 96 || Nat.beq f 66 || Nat.beq f 29 || Nat.beq f 54 || Nat.beq f 61 || Nat.beq f 32 || Nat.beq f 89, inl := fun f => Nat.beq f 115 || Nat.beq f 94, hint := hintAt hints }
end Go.Ev
/-
  LEMMAS on the program's data: cells are told apart, of one number; slice types; written by a program (types.py).
-/
namespace Go.Ev
open Go Go.Proofs
set_option linter.unusedSimpArgs false
theorem byte_inj (a b : UInt8) : ((a.toNat : Int) = (b.toNat : Int)) ↔ a = b := ⟨fun h => UInt8.toNat_inj.1 (by omega), fun h => h ▸ rfl⟩
theorem cY_eq (a b : UInt8) : cY a = cY b ↔ a = b := by simp [cY, byte_inj]
attribute [simp] cY_eq
theorem ok_cY : COk cY 1 := ⟨fun _ => rfl, fun a b h => (cY_eq a b).1 h⟩
@[simp] theorem rw_cY {fr nest : Bool} {l m : List UInt8} : rowB fr nest 1 cY l = rowB fr nest 1 cY m ↔ l = m := rowB_eq ok_cY (by decide)
@[simp] theorem slc_cY (l m : List UInt8) : slc cY l = slc cY m ↔ l = m := slc_eq ok_cY
theorem cLY_eq (a b : List UInt8) : cLY a = cLY b ↔ a = b := by simp [cLY, byte_inj]
attribute [simp] cLY_eq
theorem ok_cLY : COk cLY 1 := ⟨fun _ => rfl, fun a b h => (cLY_eq a b).1 h⟩
@[simp] theorem rw_cLY {fr nest : Bool} {l m : List (List UInt8)} : rowB fr nest 1 cLY l = rowB fr nest 1 cLY m ↔ l = m := rowB_eq ok_cLY (by decide)
@[simp] theorem slc_cLY (l m : List (List UInt8)) : slc cLY l = slc cLY m ↔ l = m := slc_eq ok_cLY
theorem cB_eq (a b : Bool) : cB a = cB b ↔ a = b := by simp [cB, byte_inj]
attribute [simp] cB_eq
theorem ok_cB : COk cB 1 := ⟨fun _ => rfl, fun a b h => (cB_eq a b).1 h⟩
@[simp] theorem rw_cB {fr nest : Bool} {l m : List Bool} : rowB fr nest 1 cB l = rowB fr nest 1 cB m ↔ l = m := rowB_eq ok_cB (by decide)
@[simp] theorem slc_cB (l m : List Bool) : slc cB l = slc cB m ↔ l = m := slc_eq ok_cB
theorem cI_eq (a b : Int) : cI a = cI b ↔ a = b := by simp [cI, byte_inj]
attribute [simp] cI_eq
theorem ok_cI : COk cI 1 := ⟨fun _ => rfl, fun a b h => (cI_eq a b).1 h⟩
@[simp] theorem rw_cI {fr nest : Bool} {l m : List Int} : rowB fr nest 1 cI l = rowB fr nest 1 cI m ↔ l = m := rowB_eq ok_cI (by decide)
@[simp] theorem slc_cI (l m : List Int) : slc cI l = slc cI m ↔ l = m := slc_eq ok_cI
theorem cS_eq (a b : ByteArray) : cS a = cS b ↔ a = b := by simp [cS, byte_inj]
attribute [simp] cS_eq
theorem ok_cS : COk cS 1 := ⟨fun _ => rfl, fun a b h => (cS_eq a b).1 h⟩
@[simp] theorem rw_cS {fr nest : Bool} {l m : List ByteArray} : rowB fr nest 1 cS l = rowB fr nest 1 cS m ↔ l = m := rowB_eq ok_cS (by decide)
@[simp] theorem slc_cS (l m : List ByteArray) : slc cS l = slc cS m ↔ l = m := slc_eq ok_cS
theorem cLI_eq (a b : List Int) : cLI a = cLI b ↔ a = b := by simp [cLI, byte_inj]
attribute [simp] cLI_eq
theorem ok_cLI : COk cLI 1 := ⟨fun _ => rfl, fun a b h => (cLI_eq a b).1 h⟩
@[simp] theorem rw_cLI {fr nest : Bool} {l m : List (List Int)} : rowB fr nest 1 cLI l = rowB fr nest 1 cLI m ↔ l = m := rowB_eq ok_cLI (by decide)
@[simp] theorem slc_cLI (l m : List (List Int)) : slc cLI l = slc cLI m ↔ l = m := slc_eq ok_cLI
theorem cTerrain_eq (a b : DTerrain) : cTerrain a = cTerrain b ↔ a = b := by
  obtain ⟨_, _, _, _, _⟩ := a
  obtain ⟨_, _, _, _, _⟩ := b
  simp [cTerrain, and_assoc, byte_inj]
attribute [simp] cTerrain_eq
theorem ok_cTerrain : COk cTerrain 5 := ⟨fun _ => rfl, fun a b h => (cTerrain_eq a b).1 h⟩
@[simp] theorem rw_cTerrain {fr nest : Bool} {l m : List DTerrain} : rowB fr nest 5 cTerrain l = rowB fr nest 5 cTerrain m ↔ l = m := rowB_eq ok_cTerrain (by decide)
@[simp] theorem slc_cTerrain (l m : List DTerrain) : slc cTerrain l = slc cTerrain m ↔ l = m := slc_eq ok_cTerrain
theorem cLTerrain_eq (a b : List DTerrain) : cLTerrain a = cLTerrain b ↔ a = b := by simp [cLTerrain, byte_inj]
attribute [simp] cLTerrain_eq
theorem ok_cLTerrain : COk cLTerrain 1 := ⟨fun _ => rfl, fun a b h => (cLTerrain_eq a b).1 h⟩
@[simp] theorem rw_cLTerrain {fr nest : Bool} {l m : List (List DTerrain)} : rowB fr nest 1 cLTerrain l = rowB fr nest 1 cLTerrain m ↔ l = m := rowB_eq ok_cLTerrain (by decide)
@[simp] theorem slc_cLTerrain (l m : List (List DTerrain)) : slc cLTerrain l = slc cLTerrain m ↔ l = m := slc_eq ok_cLTerrain
theorem cKind_eq (a b : DKind) : cKind a = cKind b ↔ a = b := by
  obtain ⟨_, _, _, _, _, _⟩ := a
  obtain ⟨_, _, _, _, _, _⟩ := b
  simp [cKind, and_assoc, byte_inj]
attribute [simp] cKind_eq
theorem ok_cKind : COk cKind 6 := ⟨fun _ => rfl, fun a b h => (cKind_eq a b).1 h⟩
@[simp] theorem rw_cKind {fr nest : Bool} {l m : List DKind} : rowB fr nest 6 cKind l = rowB fr nest 6 cKind m ↔ l = m := rowB_eq ok_cKind (by decide)
@[simp] theorem slc_cKind (l m : List DKind) : slc cKind l = slc cKind m ↔ l = m := slc_eq ok_cKind
theorem cLKind_eq (a b : List DKind) : cLKind a = cLKind b ↔ a = b := by simp [cLKind, byte_inj]
attribute [simp] cLKind_eq
theorem ok_cLKind : COk cLKind 1 := ⟨fun _ => rfl, fun a b h => (cLKind_eq a b).1 h⟩
@[simp] theorem rw_cLKind {fr nest : Bool} {l m : List (List DKind)} : rowB fr nest 1 cLKind l = rowB fr nest 1 cLKind m ↔ l = m := rowB_eq ok_cLKind (by decide)
@[simp] theorem slc_cLKind (l m : List (List DKind)) : slc cLKind l = slc cLKind m ↔ l = m := slc_eq ok_cLKind
theorem cRules_eq (a b : DRules) : cRules a = cRules b ↔ a = b := by
  obtain ⟨_, _, _, _, _, _, _⟩ := a
  obtain ⟨_, _, _, _, _, _, _⟩ := b
  simp [cRules, and_assoc, byte_inj]
attribute [simp] cRules_eq
theorem ok_cRules : COk cRules 7 := ⟨fun _ => rfl, fun a b h => (cRules_eq a b).1 h⟩
@[simp] theorem rw_cRules {fr nest : Bool} {l m : List DRules} : rowB fr nest 7 cRules l = rowB fr nest 7 cRules m ↔ l = m := rowB_eq ok_cRules (by decide)
@[simp] theorem slc_cRules (l m : List DRules) : slc cRules l = slc cRules m ↔ l = m := slc_eq ok_cRules
theorem cMap_eq (a b : DMap) : cMap a = cMap b ↔ a = b := by
  obtain ⟨_, _, _, _, _⟩ := a
  obtain ⟨_, _, _, _, _⟩ := b
  simp [cMap, and_assoc, byte_inj]
attribute [simp] cMap_eq
theorem ok_cMap : COk cMap 5 := ⟨fun _ => rfl, fun a b h => (cMap_eq a b).1 h⟩
@[simp] theorem rw_cMap {fr nest : Bool} {l m : List DMap} : rowB fr nest 5 cMap l = rowB fr nest 5 cMap m ↔ l = m := rowB_eq ok_cMap (by decide)
@[simp] theorem slc_cMap (l m : List DMap) : slc cMap l = slc cMap m ↔ l = m := slc_eq ok_cMap
theorem cBoard_eq (a b : DBoard) : cBoard a = cBoard b ↔ a = b := by
  obtain ⟨⟨_, _, _, _, _, _, _⟩, ⟨_, _, _, _, _⟩⟩ := a
  obtain ⟨⟨_, _, _, _, _, _, _⟩, ⟨_, _, _, _, _⟩⟩ := b
  simp [cBoard, and_assoc, byte_inj]
attribute [simp] cBoard_eq
theorem ok_cBoard : COk cBoard 12 := ⟨fun _ => rfl, fun a b h => (cBoard_eq a b).1 h⟩
@[simp] theorem rw_cBoard {fr nest : Bool} {l m : List DBoard} : rowB fr nest 12 cBoard l = rowB fr nest 12 cBoard m ↔ l = m := rowB_eq ok_cBoard (by decide)
@[simp] theorem slc_cBoard (l m : List DBoard) : slc cBoard l = slc cBoard m ↔ l = m := slc_eq ok_cBoard
theorem cUnit_eq (a b : DUnit) : cUnit a = cUnit b ↔ a = b := by
  obtain ⟨_, _, _, _⟩ := a
  obtain ⟨_, _, _, _⟩ := b
  simp [cUnit, and_assoc, byte_inj]
attribute [simp] cUnit_eq
theorem ok_cUnit : COk cUnit 4 := ⟨fun _ => rfl, fun a b h => (cUnit_eq a b).1 h⟩
@[simp] theorem rw_cUnit {fr nest : Bool} {l m : List DUnit} : rowB fr nest 4 cUnit l = rowB fr nest 4 cUnit m ↔ l = m := rowB_eq ok_cUnit (by decide)
@[simp] theorem slc_cUnit (l m : List DUnit) : slc cUnit l = slc cUnit m ↔ l = m := slc_eq ok_cUnit
theorem cLUnit_eq (a b : List DUnit) : cLUnit a = cLUnit b ↔ a = b := by simp [cLUnit, byte_inj]
attribute [simp] cLUnit_eq
theorem ok_cLUnit : COk cLUnit 1 := ⟨fun _ => rfl, fun a b h => (cLUnit_eq a b).1 h⟩
@[simp] theorem rw_cLUnit {fr nest : Bool} {l m : List (List DUnit)} : rowB fr nest 1 cLUnit l = rowB fr nest 1 cLUnit m ↔ l = m := rowB_eq ok_cLUnit (by decide)
@[simp] theorem slc_cLUnit (l m : List (List DUnit)) : slc cLUnit l = slc cLUnit m ↔ l = m := slc_eq ok_cLUnit
theorem cState_eq (a b : DState) : cState a = cState b ↔ a = b := by
  obtain ⟨_, _, _⟩ := a
  obtain ⟨_, _, _⟩ := b
  simp [cState, and_assoc, byte_inj]
attribute [simp] cState_eq
theorem ok_cState : COk cState 3 := ⟨fun _ => rfl, fun a b h => (cState_eq a b).1 h⟩
@[simp] theorem rw_cState {fr nest : Bool} {l m : List DState} : rowB fr nest 3 cState l = rowB fr nest 3 cState m ↔ l = m := rowB_eq ok_cState (by decide)
@[simp] theorem slc_cState (l m : List DState) : slc cState l = slc cState m ↔ l = m := slc_eq ok_cState
theorem cU64_eq (a b : Int) : cU64 a = cU64 b ↔ a = b := by simp [cU64, byte_inj]
attribute [simp] cU64_eq
theorem ok_cU64 : COk cU64 1 := ⟨fun _ => rfl, fun a b h => (cU64_eq a b).1 h⟩
@[simp] theorem rw_cU64 {fr nest : Bool} {l m : List Int} : rowB fr nest 1 cU64 l = rowB fr nest 1 cU64 m ↔ l = m := rowB_eq ok_cU64 (by decide)
@[simp] theorem slc_cU64 (l m : List Int) : slc cU64 l = slc cU64 m ↔ l = m := slc_eq ok_cU64
theorem cl1Cur_eq (a b : Dl1Cur) : cl1Cur a = cl1Cur b ↔ a = b := by
  obtain ⟨_, _, _⟩ := a
  obtain ⟨_, _, _⟩ := b
  simp [cl1Cur, and_assoc, byte_inj]
attribute [simp] cl1Cur_eq
theorem ok_cl1Cur : COk cl1Cur 3 := ⟨fun _ => rfl, fun a b h => (cl1Cur_eq a b).1 h⟩
@[simp] theorem rw_cl1Cur {fr nest : Bool} {l m : List Dl1Cur} : rowB fr nest 3 cl1Cur l = rowB fr nest 3 cl1Cur m ↔ l = m := rowB_eq ok_cl1Cur (by decide)
@[simp] theorem slc_cl1Cur (l m : List Dl1Cur) : slc cl1Cur l = slc cl1Cur m ↔ l = m := slc_eq ok_cl1Cur
theorem cLB_eq (a b : List Bool) : cLB a = cLB b ↔ a = b := by simp [cLB, byte_inj]
attribute [simp] cLB_eq
theorem ok_cLB : COk cLB 1 := ⟨fun _ => rfl, fun a b h => (cLB_eq a b).1 h⟩
@[simp] theorem rw_cLB {fr nest : Bool} {l m : List (List Bool)} : rowB fr nest 1 cLB l = rowB fr nest 1 cLB m ↔ l = m := rowB_eq ok_cLB (by decide)
@[simp] theorem slc_cLB (l m : List (List Bool)) : slc cLB l = slc cLB m ↔ l = m := slc_eq ok_cLB
theorem cA2I_eq (a b : A2I) : cA2I a = cA2I b ↔ a = b := by
  obtain ⟨_, _⟩ := a
  obtain ⟨_, _⟩ := b
  simp [cA2I, and_assoc, byte_inj]
attribute [simp] cA2I_eq
theorem ok_cA2I : COk cA2I 2 := ⟨fun _ => rfl, fun a b h => (cA2I_eq a b).1 h⟩
@[simp] theorem rw_cA2I {fr nest : Bool} {l m : List A2I} : rowB fr nest 2 cA2I l = rowB fr nest 2 cA2I m ↔ l = m := rowB_eq ok_cA2I (by decide)
@[simp] theorem slc_cA2I (l m : List A2I) : slc cA2I l = slc cA2I m ↔ l = m := slc_eq ok_cA2I
theorem cLA2I_eq (a b : List A2I) : cLA2I a = cLA2I b ↔ a = b := by simp [cLA2I, byte_inj]
attribute [simp] cLA2I_eq
theorem ok_cLA2I : COk cLA2I 1 := ⟨fun _ => rfl, fun a b h => (cLA2I_eq a b).1 h⟩
@[simp] theorem rw_cLA2I {fr nest : Bool} {l m : List (List A2I)} : rowB fr nest 1 cLA2I l = rowB fr nest 1 cLA2I m ↔ l = m := rowB_eq ok_cLA2I (by decide)
@[simp] theorem slc_cLA2I (l m : List (List A2I)) : slc cLA2I l = slc cLA2I m ↔ l = m := slc_eq ok_cLA2I
theorem cHex_eq (a b : DHex) : cHex a = cHex b ↔ a = b := by
  obtain ⟨_, _⟩ := a
  obtain ⟨_, _⟩ := b
  simp [cHex, and_assoc, byte_inj]
attribute [simp] cHex_eq
theorem ok_cHex : COk cHex 2 := ⟨fun _ => rfl, fun a b h => (cHex_eq a b).1 h⟩
@[simp] theorem rw_cHex {fr nest : Bool} {l m : List DHex} : rowB fr nest 2 cHex l = rowB fr nest 2 cHex m ↔ l = m := rowB_eq ok_cHex (by decide)
@[simp] theorem slc_cHex (l m : List DHex) : slc cHex l = slc cHex m ↔ l = m := slc_eq ok_cHex
theorem cLLI_eq (a b : List (List Int)) : cLLI a = cLLI b ↔ a = b := by simp [cLLI, byte_inj]
attribute [simp] cLLI_eq
theorem ok_cLLI : COk cLLI 1 := ⟨fun _ => rfl, fun a b h => (cLLI_eq a b).1 h⟩
@[simp] theorem rw_cLLI {fr nest : Bool} {l m : List (List (List Int))} : rowB fr nest 1 cLLI l = rowB fr nest 1 cLLI m ↔ l = m := rowB_eq ok_cLLI (by decide)
@[simp] theorem slc_cLLI (l m : List (List (List Int))) : slc cLLI l = slc cLLI m ↔ l = m := slc_eq ok_cLLI
theorem cLS_eq (a b : List ByteArray) : cLS a = cLS b ↔ a = b := by simp [cLS, byte_inj]
attribute [simp] cLS_eq
theorem ok_cLS : COk cLS 1 := ⟨fun _ => rfl, fun a b h => (cLS_eq a b).1 h⟩
@[simp] theorem rw_cLS {fr nest : Bool} {l m : List (List ByteArray)} : rowB fr nest 1 cLS l = rowB fr nest 1 cLS m ↔ l = m := rowB_eq ok_cLS (by decide)
@[simp] theorem slc_cLS (l m : List (List ByteArray)) : slc cLS l = slc cLS m ↔ l = m := slc_eq ok_cLS
theorem cA6Hex_eq (a b : A6Hex) : cA6Hex a = cA6Hex b ↔ a = b := by
  obtain ⟨⟨_, _⟩, ⟨_, _⟩, ⟨_, _⟩, ⟨_, _⟩, ⟨_, _⟩, ⟨_, _⟩⟩ := a
  obtain ⟨⟨_, _⟩, ⟨_, _⟩, ⟨_, _⟩, ⟨_, _⟩, ⟨_, _⟩, ⟨_, _⟩⟩ := b
  simp [cA6Hex, and_assoc, byte_inj]
attribute [simp] cA6Hex_eq
theorem ok_cA6Hex : COk cA6Hex 12 := ⟨fun _ => rfl, fun a b h => (cA6Hex_eq a b).1 h⟩
@[simp] theorem rw_cA6Hex {fr nest : Bool} {l m : List A6Hex} : rowB fr nest 12 cA6Hex l = rowB fr nest 12 cA6Hex m ↔ l = m := rowB_eq ok_cA6Hex (by decide)
@[simp] theorem slc_cA6Hex (l m : List A6Hex) : slc cA6Hex l = slc cA6Hex m ↔ l = m := slc_eq ok_cA6Hex
theorem cTerrainN_eq (a b : DTerrain) : cTerrainN a = cTerrainN b ↔ a = b := by
  obtain ⟨_, _, _, _, _⟩ := a
  obtain ⟨_, _, _, _, _⟩ := b
  simp only [cTerrainN, List.cons.injEq, AV.sc.injEq, Value.string.injEq, Value.int.injEq, Value.bool.injEq, nst_eq ok_cI, true_and, and_true, DTerrain.mk.injEq]
attribute [simp] cTerrainN_eq
theorem ok_cTerrainN : COk cTerrainN 5 := ⟨fun _ => rfl, fun a b h => (cTerrainN_eq a b).1 h⟩
@[simp] theorem rw_cTerrainN {fr nest : Bool} {l m : List DTerrain} : rowB fr nest 5 cTerrainN l = rowB fr nest 5 cTerrainN m ↔ l = m := rowB_eq ok_cTerrainN (by decide)
theorem sl_cY : SlOk Tryz.prog 22 cY := ⟨5, 1, by kernel_rfl, by kernel_rfl, ok_cY⟩
theorem rt_cY : RowT Tryz.prog 22 cY 1 1 := ⟨ok_cY, by decide, fun _ => rfl, ⟨5, [.sc (.int .u8 0)], by kernel_rfl, by kernel_rfl, by kernel_rfl, by kernel_rfl, rfl⟩⟩
theorem ag_cY : szT Tryz.prog 5 = some 1 ∧ aggT Tryz.prog 5 = some false := ⟨by kernel_rfl, by kernel_rfl⟩
theorem sl_cTerrain : SlOk Tryz.prog 23 cTerrain := ⟨121, 5, by kernel_rfl, by kernel_rfl, ok_cTerrain⟩
theorem rt_cTerrain : RowT Tryz.prog 23 cTerrain 5 64 := ⟨ok_cTerrain, by decide, fun _ => rfl, ⟨121, [S ByteArray.empty, .emp, I 0, I 0, B false], by kernel_rfl, by kernel_rfl, by kernel_rfl, by kernel_rfl, rfl⟩⟩
theorem ag_cTerrain : szT Tryz.prog 121 = some 5 ∧ aggT Tryz.prog 121 = some true := ⟨by kernel_rfl, by kernel_rfl⟩
theorem str_ok : isStrT Tryz.prog 9 = true := by kernel_rfl
theorem sl_cI : SlOk Tryz.prog 27 cI := ⟨3, 1, by kernel_rfl, by kernel_rfl, ok_cI⟩
theorem rt_cI : RowT Tryz.prog 27 cI 1 8 := ⟨ok_cI, by decide, fun _ => rfl, ⟨3, [I 0], by kernel_rfl, by kernel_rfl, by kernel_rfl, by kernel_rfl, rfl⟩⟩
theorem ag_cI : szT Tryz.prog 3 = some 1 ∧ aggT Tryz.prog 3 = some false := ⟨by kernel_rfl, by kernel_rfl⟩
theorem sl_cKind : SlOk Tryz.prog 24 cKind := ⟨110, 6, by kernel_rfl, by kernel_rfl, ok_cKind⟩
theorem rt_cKind : RowT Tryz.prog 24 cKind 6 56 := ⟨ok_cKind, by decide, fun _ => rfl, ⟨110, [S ByteArray.empty, I 0, I 0, I 0, B false, I 0], by kernel_rfl, by kernel_rfl, by kernel_rfl, by kernel_rfl, rfl⟩⟩
theorem ag_cKind : szT Tryz.prog 110 = some 6 ∧ aggT Tryz.prog 110 = some true := ⟨by kernel_rfl, by kernel_rfl⟩
theorem sl_cUnit : SlOk Tryz.prog 32 cUnit := ⟨80, 4, by kernel_rfl, by kernel_rfl, ok_cUnit⟩
theorem rt_cUnit : RowT Tryz.prog 32 cUnit 4 32 := ⟨ok_cUnit, by decide, fun _ => rfl, ⟨80, [I 0, I 0, I 0, I 0], by kernel_rfl, by kernel_rfl, by kernel_rfl, by kernel_rfl, rfl⟩⟩
theorem ag_cUnit : szT Tryz.prog 80 = some 4 ∧ aggT Tryz.prog 80 = some true := ⟨by kernel_rfl, by kernel_rfl⟩
theorem sl_cB : SlOk Tryz.prog 72 cB := ⟨4, 1, by kernel_rfl, by kernel_rfl, ok_cB⟩
theorem rt_cB : RowT Tryz.prog 72 cB 1 1 := ⟨ok_cB, by decide, fun _ => rfl, ⟨4, [B false], by kernel_rfl, by kernel_rfl, by kernel_rfl, by kernel_rfl, rfl⟩⟩
theorem ag_cB : szT Tryz.prog 4 = some 1 ∧ aggT Tryz.prog 4 = some false := ⟨by kernel_rfl, by kernel_rfl⟩
theorem ar_cA2I : arT Tryz.prog 82 = some (2, 3) ∧ szT Tryz.prog 3 = some 1 ∧ slT Tryz.prog 82 = none := ⟨by kernel_rfl, by kernel_rfl, by kernel_rfl⟩
theorem sl_cA2I : SlOk Tryz.prog 105 cA2I := ⟨82, 2, by kernel_rfl, by kernel_rfl, ok_cA2I⟩
theorem rt_cA2I : RowT Tryz.prog 105 cA2I 2 16 := ⟨ok_cA2I, by decide, fun _ => rfl, ⟨82, [I 0, I 0], by kernel_rfl, by kernel_rfl, by kernel_rfl, by kernel_rfl, rfl⟩⟩
theorem ag_cA2I : szT Tryz.prog 82 = some 2 ∧ aggT Tryz.prog 82 = some true := ⟨by kernel_rfl, by kernel_rfl⟩
theorem sl_cLI : SlOk Tryz.prog 132 cLI := ⟨27, 1, by kernel_rfl, by kernel_rfl, ok_cLI⟩
theorem rt_cLI : RowT Tryz.prog 132 cLI 1 24 := ⟨ok_cLI, by decide, fun _ => rfl, ⟨27, [.emp], by kernel_rfl, by kernel_rfl, by kernel_rfl, by kernel_rfl, rfl⟩⟩
theorem ag_cLI : szT Tryz.prog 27 = some 1 ∧ aggT Tryz.prog 27 = some false := ⟨by kernel_rfl, by kernel_rfl⟩
theorem sl_cS : SlOk Tryz.prog 137 cS := ⟨9, 1, by kernel_rfl, by kernel_rfl, ok_cS⟩
theorem rt_cS : RowT Tryz.prog 137 cS 1 16 := ⟨ok_cS, by decide, fun _ => rfl, ⟨9, [S ByteArray.empty], by kernel_rfl, by kernel_rfl, by kernel_rfl, by kernel_rfl, rfl⟩⟩
theorem ag_cS : szT Tryz.prog 9 = some 1 ∧ aggT Tryz.prog 9 = some false := ⟨by kernel_rfl, by kernel_rfl⟩
theorem ar_cA6Hex : arT Tryz.prog 119 = some (6, 118) ∧ szT Tryz.prog 118 = some 2 ∧ slT Tryz.prog 119 = none := ⟨by kernel_rfl, by kernel_rfl, by kernel_rfl⟩
end Go.Ev
