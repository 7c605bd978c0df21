/-
  Ed: one of the texts behind a proof of laws.FnRestoring: the program's types as data
  Its conditions: none of its own.
-/
import Derived.Test.YtgkcaabkejbidaaGreatDoorEc
import Derived.Test.YtgkcaabkejbidaaGreatDoorProg
import Derived.KernelRfl
set_option maxRecDepth 100000
set_option linter.unusedVariables false
set_option linter.unusedSectionVars false
set_option linter.unusedSimpArgs false
set_option linter.unnecessarySimpa false
/-
  THE DATA that the program handles: its structs, how they lie in cells; the table of types; the configuration of the evaluator.
  Written by a program (types.py) off the translation's own tables.
-/
namespace Go.Ev
open Go Go.Proofs
abbrev I (n : Int) : AV := .sc (.int .i64 n)
abbrev K (k : IntKind) (n : Int) : AV := .sc (.int k n)
abbrev B (b : Bool) : AV := .sc (.bool b)
abbrev S (s : ByteArray) : AV := .sc (.string s)
def cI (n : Int) : List AV := [I n]
def cU64 (n : Int) : List AV := [K .u64 n]
def cI32 (n : Int) : List AV := [K .i32 n]
def cU32 (n : Int) : List AV := [K .u32 n]
def cB (b : Bool) : List AV := [B b]
def cS (s : ByteArray) : List AV := [S s]
/-- A slice of the program's own arguments. -/
structure KSl where
  A : Option Addr
  n : Nat
  k : Nat
def Kn (x : KSl) : AV := .sc (.slice x.A x.n x.k)
@[simp] theorem Kn_eq (a b : KSl) : Kn a = Kn b ↔ a = b := by
  obtain ⟨_, _, _⟩ := a
  obtain ⟨_, _, _⟩ := b
  simp [Kn]
def cLY (l : List UInt8) : List AV := [slc cY l]
def cLI (l : List Int) : List AV := [slc cI l]
structure DTerrain where
  Name : ByteArray
  Cost : List Int
  Shift : Int
  Height : Int
  Blocks : Bool
def cTerrain (x : DTerrain) : List AV := [S x.Name, slc cI x.Cost, I x.Shift, I x.Height, B x.Blocks]
def cLTerrain (l : List DTerrain) : List AV := [slc cTerrain l]
structure DKind where
  Name : ByteArray
  Strength : Int
  Moves : Int
  Steps : Int
  Zone : Bool
  View : Int
def cKind (x : DKind) : List AV := [S x.Name, I x.Strength, I x.Moves, I x.Steps, B x.Zone, I x.View]
def cLKind (l : List DKind) : List AV := [slc cKind l]
structure DRules where
  Terrains : List DTerrain
  Kinds : List DKind
  Stack : Int
  River : Int
  Road : Int
  Supply : Int
  Turns : Int
def cRules (x : DRules) : List AV := [slc cTerrain x.Terrains, slc cKind x.Kinds, I x.Stack, I x.River, I x.Road, I x.Supply, I x.Turns]
structure DMap where
  Width : Int
  Height : Int
  Terrain : List Int
  Rivers : List Int
  Roads : List Int
def cMap (x : DMap) : List AV := [I x.Width, I x.Height, slc cI x.Terrain, slc cI x.Rivers, slc cI x.Roads]
structure DBoard where
  Rules : DRules
  Map : DMap
def cBoard (x : DBoard) : List AV := [slc cTerrain x.Rules.Terrains, slc cKind x.Rules.Kinds, I x.Rules.Stack, I x.Rules.River, I x.Rules.Road, I x.Rules.Supply, I x.Rules.Turns, I x.Map.Width, I x.Map.Height, slc cI x.Map.Terrain, slc cI x.Map.Rivers, slc cI x.Map.Roads]
structure DUnit where
  Side : Int
  Kind : Int
  At : Int
  Steps : Int
def cUnit (x : DUnit) : List AV := [I x.Side, I x.Kind, I x.At, I x.Steps]
def cLUnit (l : List DUnit) : List AV := [slc cUnit l]
structure DState where
  Turn : Int
  Weather : Int
  Units : List DUnit
def cState (x : DState) : List AV := [I x.Turn, I x.Weather, slc cUnit x.Units]
structure DWorks where
  Side : Int
  At : Int
  Points : Int
  Queue : List Int
def cWorks (x : DWorks) : List AV := [I x.Side, I x.At, I x.Points, slc cI x.Queue]
structure Dl1Cur where
  code_ : KSl
  at_ : Int
  seed_ : Int
def cl1Cur (x : Dl1Cur) : List AV := [Kn x.code_, I x.at_, K .u64 x.seed_]
structure DHex where
  Q : Int
  R : Int
def cHex (x : DHex) : List AV := [I x.Q, I x.R]
structure A2I where
  a0 : Int
  a1 : Int
def cA2I (x : A2I) : List AV := [I x.a0, I x.a1]
def cLA2I (l : List A2I) : List AV := [slc cA2I l]
def cLS (l : List ByteArray) : List AV := [slc cS l]
structure A6Hex where
  a0 : DHex
  a1 : DHex
  a2 : DHex
  a3 : DHex
  a4 : DHex
  a5 : DHex
def cA6Hex (x : A6Hex) : List AV := [I x.a0.Q, I x.a0.R, I x.a1.Q, I x.a1.R, I x.a2.Q, I x.a2.R, I x.a3.Q, I x.a3.R, I x.a4.Q, I x.a4.R, I x.a5.Q, I x.a5.R]
def cLLI (l : List (List Int)) : List AV := [slc cLI l]
def tblAt : List (TypeId × TE) → TypeId → Option TE
  | [], _ => none
  | (a, e) :: r, t => bif Nat.beq a t then some e else tblAt r t
def tLY : TE := ⟨List UInt8, false, cLY⟩
def tY : TE := ⟨UInt8, false, cY⟩
def tB : TE := ⟨Bool, false, cB⟩
def tI : TE := ⟨Int, false, cI⟩
def tBoard : TE := ⟨DBoard, true, cBoard⟩
def tRules : TE := ⟨DRules, true, cRules⟩
def tLTerrain : TE := ⟨List DTerrain, false, cLTerrain⟩
def tTerrain : TE := ⟨DTerrain, true, cTerrain⟩
def tS : TE := ⟨ByteArray, false, cS⟩
def tLI : TE := ⟨List Int, false, cLI⟩
def tLKind : TE := ⟨List DKind, false, cLKind⟩
def tKind : TE := ⟨DKind, true, cKind⟩
def tMap : TE := ⟨DMap, true, cMap⟩
def tState : TE := ⟨DState, true, cState⟩
def tLUnit : TE := ⟨List DUnit, false, cLUnit⟩
def tUnit : TE := ⟨DUnit, true, cUnit⟩
def tWorks : TE := ⟨DWorks, true, cWorks⟩
def tl1Cur : TE := ⟨Dl1Cur, true, cl1Cur⟩
def tU64 : TE := ⟨Int, false, cU64⟩
def tHex : TE := ⟨DHex, true, cHex⟩
def tLA2I : TE := ⟨List A2I, false, cLA2I⟩
def tA2I : TE := ⟨A2I, true, cA2I⟩
def tLS : TE := ⟨List ByteArray, false, cLS⟩
def tA6Hex : TE := ⟨A6Hex, true, cA6Hex⟩
def tLLI : TE := ⟨List (List Int), false, cLLI⟩
def tbl : Tbl := tblAt [(22, tLY), (5, tY), (4, tB), (3, tI), (31, tBoard), (30, tBoard), (26, tRules), (25, tRules), (23, tLTerrain), (111, tTerrain), (110, tTerrain), (9, tS), (27, tLI), (24, tLKind), (73, tKind), (72, tKind), (29, tMap), (28, tMap), (34, tState), (33, tState), (32, tLUnit), (62, tUnit), (61, tUnit), (36, tWorks), (35, tWorks), (56, tl1Cur), (55, tl1Cur), (54, tU64), (66, tHex), (65, tHex), (123, tLA2I), (124, tA2I), (127, tLS), (105, tA6Hex), (136, tLLI)]
def rowAt : List ((Nat × Nat) × Nat) → Nat → Nat → Option TypeId
  | [], _, _ => none
  | (a, h) :: r, f, i => bif Nat.beq a.1 f && Nat.beq a.2 i then some h else rowAt r f i
def rowTab : List ((Nat × Nat) × Nat) := [((3, 0), 5), ((3, 1), 5), ((3, 33), 5), ((3, 35), 5), ((3, 40), 5), ((3, 65), 5), ((3, 85), 5), ((3, 200005), 111), ((3, 300005), 73), ((3, 400005), 3), ((3, 500005), 3), ((3, 600005), 3), ((3, 200006), 62), ((3, 200007), 3), ((3, 200009), 62), ((3, 200010), 3), ((3, 200012), 62), ((3, 200013), 3), ((3, 200015), 111), ((3, 300015), 73), ((3, 400015), 3), ((3, 500015), 3), ((3, 600015), 3), ((3, 200016), 62), ((3, 200022), 111), ((3, 300022), 73), ((3, 400022), 3), ((3, 500022), 3), ((3, 600022), 3), ((3, 200023), 62), ((3, 200024), 3), ((3, 200031), 62), ((4, 0), 5), ((4, 11), 5), ((4, 33), 62), ((4, 41), 62), ((4, 50), 62), ((4, 200002), 111), ((4, 300002), 73), ((4, 400002), 3), ((4, 500002), 3), ((4, 600002), 3), ((4, 200003), 62), ((4, 200004), 3), ((4, 200013), 5), ((4, 100016), 62), ((4, 200007), 111), ((4, 300007), 73), ((4, 400007), 3), ((4, 500007), 3), ((4, 600007), 3), ((4, 200008), 62), ((4, 200009), 3), ((5, 34), 62), ((5, 83), 62), ((5, 200004), 111), ((5, 300004), 73), ((5, 400004), 3), ((5, 500004), 3), ((5, 600004), 3), ((5, 200005), 62), ((5, 200006), 3), ((5, 200008), 62), ((5, 200009), 3), ((5, 100079), 62), ((5, 200014), 62), ((5, 200015), 3), ((6, 28), 62), ((6, 41), 62), ((6, 55), 73), ((6, 57), 62), ((6, 73), 62), ((6, 97), 62), ((6, 200004), 111), ((6, 300004), 73), ((6, 400004), 3), ((6, 500004), 3), ((6, 600004), 3), ((6, 200005), 62), ((6, 200006), 3), ((6, 200008), 62), ((6, 200009), 3), ((6, 100093), 62), ((6, 200012), 62), ((6, 200013), 3), ((7, 0), 5), ((7, 5), 5), ((7, 200002), 111), ((7, 300002), 73), ((7, 400002), 3), ((7, 500002), 3), ((7, 600002), 3), ((7, 200003), 62), ((8, 16), 62), ((8, 25), 73), ((8, 27), 62), ((8, 200003), 111), ((8, 300003), 73), ((8, 400003), 3), ((8, 500003), 3), ((8, 600003), 3), ((8, 200004), 62), ((9, 15), 73), ((9, 17), 62), ((9, 200003), 111), ((9, 300003), 73), ((9, 400003), 3), ((9, 500003), 3), ((9, 600003), 3), ((9, 200004), 62), ((10, 0), 5), ((10, 6), 5), ((10, 200002), 111), ((10, 300002), 73), ((10, 400002), 3), ((10, 500002), 3), ((10, 600002), 3), ((10, 200003), 62), ((10, 200004), 3), ((10, 200008), 5), ((10, 100010), 62), ((11, 200003), 111), ((11, 300003), 73), ((11, 400003), 3), ((11, 500003), 3), ((11, 600003), 3), ((11, 200004), 62), ((11, 200005), 3), ((12, 200003), 111), ((12, 300003), 73), ((12, 400003), 3), ((12, 500003), 3), ((12, 600003), 3), ((12, 200004), 62), ((12, 200005), 3), ((13, 19), 62), ((13, 21), 62), ((13, 200002), 62), ((13, 200003), 62), ((14, 26), 3), ((14, 28), 3), ((14, 200002), 3), ((14, 200003), 3), ((15, 200004), 111), ((15, 300004), 73), ((15, 400004), 3), ((15, 500004), 3), ((15, 600004), 3), ((15, 200005), 62), ((15, 200008), 62), ((15, 100023), 62), ((15, 200010), 62), ((16, 18), 62), ((16, 26), 62), ((16, 29), 62), ((16, 200002), 111), ((16, 300002), 73), ((16, 400002), 3), ((16, 500002), 3), ((16, 600002), 3), ((16, 200003), 62), ((16, 200004), 3), ((16, 100011), 62), ((16, 200005), 111), ((16, 300005), 73), ((16, 400005), 3), ((16, 500005), 3), ((16, 600005), 3), ((16, 200006), 62), ((16, 200007), 3), ((17, 7), 62), ((17, 200003), 62), ((18, 13), 62), ((18, 200003), 111), ((18, 300003), 73), ((18, 400003), 3), ((18, 500003), 3), ((18, 600003), 3), ((18, 200004), 62), ((20, 25), 3), ((20, 30), 3), ((20, 200002), 111), ((20, 300002), 73), ((20, 400002), 3), ((20, 500002), 3), ((20, 600002), 3), ((20, 200003), 3), ((22, 200002), 3), ((22, 300002), 3), ((22, 400002), 3), ((23, 12), 62), ((23, 200004), 111), ((23, 300004), 73), ((23, 400004), 3), ((23, 500004), 3), ((23, 600004), 3), ((23, 200005), 62), ((24, 4), 62), ((24, 5), 62), ((24, 200001), 62), ((24, 200002), 62), ((24, 100005), 62), ((25, 4), 3), ((25, 5), 3), ((25, 200001), 3), ((25, 200002), 3), ((25, 100005), 3), ((26, 200003), 111), ((26, 300003), 73), ((26, 400003), 3), ((26, 500003), 3), ((26, 600003), 3), ((26, 200004), 62), ((26, 200005), 3), ((27, 13), 62), ((27, 22), 62), ((27, 29), 73), ((27, 31), 62), ((27, 200003), 111), ((27, 300003), 73), ((27, 400003), 3), ((27, 500003), 3), ((27, 600003), 3), ((27, 200004), 62), ((28, 13), 3), ((28, 200004), 111), ((28, 300004), 73), ((28, 400004), 3), ((28, 500004), 3), ((28, 600004), 3), ((28, 200005), 62), ((30, 200002), 3), ((30, 300002), 3), ((30, 400002), 3), ((31, 7), 62), ((31, 9), 62), ((31, 10), 62), ((31, 200001), 62), ((31, 200002), 62), ((32, 10), 3), ((32, 11), 3), ((32, 200001), 3), ((32, 200002), 3), ((33, 0), 5), ((33, 8), 5), ((33, 200002), 111), ((33, 300002), 73), ((33, 400002), 3), ((33, 500002), 3), ((33, 600002), 3), ((33, 200003), 62), ((33, 200010), 5), ((33, 100013), 62), ((33, 200006), 111), ((33, 300006), 73), ((33, 400006), 3), ((33, 500006), 3), ((33, 600006), 3), ((33, 200007), 62), ((34, 13), 62), ((34, 200003), 111), ((34, 300003), 73), ((34, 400003), 3), ((34, 500003), 3), ((34, 600003), 3), ((34, 200004), 62), ((35, 13), 73), ((35, 200002), 111), ((35, 300002), 73), ((35, 400002), 3), ((35, 500002), 3), ((35, 600002), 3), ((36, 200003), 111), ((36, 300003), 73), ((36, 400003), 3), ((36, 500003), 3), ((36, 600003), 3), ((36, 200004), 62), ((36, 200005), 3), ((37, 9), 3), ((37, 17), 3), ((37, 24), 62), ((37, 30), 3), ((37, 200003), 111), ((37, 300003), 73), ((37, 400003), 3), ((37, 500003), 3), ((37, 600003), 3), ((37, 200004), 62), ((37, 200005), 3), ((38, 9), 3), ((38, 17), 3), ((38, 24), 62), ((38, 30), 3), ((38, 53), 3), ((38, 200003), 111), ((38, 300003), 73), ((38, 400003), 3), ((38, 500003), 3), ((38, 600003), 3), ((38, 200004), 62), ((38, 200005), 3), ((39, 0), 62), ((39, 1), 62), ((39, 6), 62), ((39, 8), 62), ((39, 11), 62), ((39, 16), 62), ((39, 20), 62), ((40, 0), 3), ((40, 1), 3), ((40, 6), 3), ((40, 8), 3), ((40, 11), 3), ((40, 16), 3), ((40, 20), 3), ((42, 8), 62), ((42, 0), 62), ((42, 200003), 62), ((43, 200002), 111), ((43, 300002), 73), ((43, 400002), 3), ((43, 500002), 3), ((43, 600002), 3), ((43, 200003), 62), ((43, 200004), 111), ((43, 300004), 73), ((43, 400004), 3), ((43, 500004), 3), ((43, 600004), 3), ((43, 100010), 62), ((44, 10), 3), ((44, 29), 3), ((44, 33), 73), ((44, 36), 3), ((44, 37), 3), ((44, 44), 3), ((44, 50), 3), ((44, 56), 3), ((44, 58), 3), ((44, 60), 3), ((44, 61), 3), ((44, 66), 3), ((44, 73), 3), ((44, 74), 3), ((44, 75), 3), ((44, 200003), 111), ((44, 300003), 73), ((44, 400003), 3), ((44, 500003), 3), ((44, 600003), 3), ((44, 200004), 3), ((44, 200005), 3), ((46, 29), 62), ((46, 34), 62), ((46, 46), 62), ((46, 62), 3), ((46, 71), 3), ((46, 200002), 111), ((46, 300002), 73), ((46, 400002), 3), ((46, 500002), 3), ((46, 600002), 3), ((46, 200003), 62), ((50, 5), 3), ((50, 200001), 111), ((50, 300001), 73), ((50, 400001), 3), ((50, 500001), 3), ((50, 600001), 3), ((51, 0), 3), ((51, 5), 3), ((52, 7), 73), ((54, 14), 73), ((54, 200003), 111), ((54, 300003), 73), ((54, 400003), 3), ((54, 500003), 3), ((54, 600003), 3), ((55, 0), 62), ((55, 2), 62), ((55, 3), 62), ((55, 5), 62), ((55, 6), 62), ((55, 7), 62), ((56, 0), 3), ((56, 2), 3), ((56, 3), 3), ((56, 5), 3), ((56, 6), 3), ((56, 7), 3), ((57, 28), 3), ((57, 34), 3), ((57, 37), 73), ((57, 200002), 111), ((57, 300002), 73), ((57, 400002), 3), ((57, 500002), 3), ((57, 600002), 3), ((57, 200003), 3), ((58, 8), 3), ((58, 9), 3), ((58, 13), 62), ((58, 31), 3), ((58, 33), 3), ((58, 34), 3), ((58, 36), 3), ((58, 200004), 111), ((58, 300004), 73), ((58, 400004), 3), ((58, 500004), 3), ((58, 600004), 3), ((58, 200005), 62), ((60, 0), 3), ((60, 2), 3), ((60, 3), 3), ((60, 4), 3), ((60, 5), 3), ((61, 200002), 111), ((61, 300002), 73), ((61, 400002), 3), ((61, 500002), 3), ((61, 600002), 3), ((61, 200003), 62), ((62, 7), 73), ((62, 14), 73), ((62, 200002), 111), ((62, 300002), 73), ((62, 400002), 3), ((62, 500002), 3), ((62, 600002), 3), ((63, 10), 3), ((63, 200003), 111), ((63, 300003), 73), ((63, 400003), 3), ((63, 500003), 3), ((63, 600003), 3), ((64, 20), 3), ((64, 200004), 111), ((64, 300004), 73), ((64, 400004), 3), ((64, 500004), 3), ((64, 600004), 3), ((64, 200005), 62), ((65, 7), 73), ((65, 14), 73), ((65, 200002), 111), ((65, 300002), 73), ((65, 400002), 3), ((65, 500002), 3), ((65, 600002), 3), ((66, 10), 3), ((66, 200003), 111), ((66, 300003), 73), ((66, 400003), 3), ((66, 500003), 3), ((66, 600003), 3), ((67, 8), 62), ((67, 200002), 62), ((68, 6), 3), ((68, 7), 3), ((68, 11), 62), ((68, 28), 3), ((68, 30), 3), ((68, 31), 3), ((68, 33), 3), ((68, 200003), 62), ((69, 200002), 111), ((69, 300002), 73), ((69, 400002), 3), ((69, 500002), 3), ((69, 600002), 3), ((69, 200003), 111), ((69, 300003), 73), ((69, 400003), 3), ((69, 500003), 3), ((69, 600003), 3), ((70, 11), 62), ((70, 18), 62), ((70, 33), 3), ((70, 39), 3), ((70, 45), 62), ((70, 51), 3), ((70, 58), 62), ((70, 61), 3), ((70, 68), 62), ((70, 71), 3), ((70, 78), 62), ((70, 85), 62), ((70, 87), 62), ((70, 88), 62), ((70, 200003), 111), ((70, 300003), 73), ((70, 400003), 3), ((70, 500003), 3), ((70, 600003), 3), ((70, 200004), 62), ((70, 100015), 62), ((70, 200005), 62), ((71, 1), 3), ((71, 5), 3), ((71, 7), 3), ((72, 14), 3), ((72, 17), 111), ((72, 200001), 111), ((72, 300001), 73), ((72, 400001), 3), ((72, 500001), 3), ((72, 600001), 3), ((73, 10), 3), ((73, 200003), 3), ((73, 300003), 3), ((73, 400003), 3), ((74, 11), 5), ((74, 17), 5), ((74, 51), 5), ((75, 14), 73), ((75, 25), 73), ((75, 200002), 111), ((75, 300002), 73), ((75, 400002), 3), ((75, 500002), 3), ((75, 600002), 3), ((76, 0), 3), ((76, 6), 3), ((76, 12), 3), ((77, 200003), 3), ((77, 300003), 3), ((77, 400003), 3), ((78, 6), 3), ((78, 12), 3), ((78, 200002), 3), ((78, 300002), 3), ((78, 400002), 3), ((79, 200003), 3), ((79, 300003), 3), ((79, 400003), 3), ((80, 200001), 3), ((80, 300001), 3), ((80, 400001), 3), ((81, 0), 3), ((81, 9), 3), ((82, 12), 62), ((82, 22), 73), ((82, 200004), 111), ((82, 300004), 73), ((82, 400004), 3), ((82, 500004), 3), ((82, 600004), 3), ((82, 200005), 62), ((84, 15), 3), ((84, 200001), 111), ((84, 300001), 73), ((84, 400001), 3), ((84, 500001), 3), ((84, 600001), 3), ((85, 5), 124), ((85, 23), 62), ((85, 29), 124), ((85, 31), 62), ((85, 44), 124), ((85, 55), 124), ((85, 66), 124), ((85, 200002), 111), ((85, 300002), 73), ((85, 400002), 3), ((85, 500002), 3), ((85, 600002), 3), ((85, 200003), 62), ((86, 7), 111), ((86, 10), 3), ((86, 200002), 111), ((86, 300002), 73), ((86, 400002), 3), ((86, 500002), 3), ((86, 600002), 3), ((86, 200004), 3), ((87, 8), 62), ((87, 200002), 62), ((88, 4), 3), ((88, 5), 3), ((88, 8), 3), ((88, 10), 62), ((88, 21), 3), ((88, 23), 3), ((88, 24), 3), ((88, 26), 3), ((88, 200002), 62), ((89, 7), 111), ((89, 10), 3), ((89, 200002), 111), ((89, 300002), 73), ((89, 400002), 3), ((89, 500002), 3), ((89, 600002), 3), ((89, 200004), 3), ((90, 9), 111), ((90, 200002), 111), ((90, 300002), 73), ((90, 400002), 3), ((90, 500002), 3), ((90, 600002), 3), ((90, 100005), 111), ((90, 200005), 73), ((90, 200003), 111), ((90, 300003), 73), ((90, 100011), 3), ((90, 200011), 3), ((90, 300011), 3), ((91, 11), 111), ((91, 14), 3), ((91, 16), 3), ((91, 22), 111), ((91, 24), 9), ((91, 31), 73), ((91, 33), 3), ((91, 40), 73), ((91, 42), 73), ((91, 45), 73), ((91, 46), 73), ((91, 51), 3), ((91, 57), 3), ((91, 63), 111), ((91, 65), 3), ((91, 200002), 111), ((91, 300002), 73), ((91, 100005), 111), ((91, 200005), 73), ((91, 200003), 111), ((91, 300003), 73), ((92, 14), 3), ((92, 20), 3), ((92, 22), 3), ((92, 28), 3), ((92, 37), 3), ((92, 39), 3), ((92, 40), 3), ((92, 44), 3), ((92, 46), 3), ((92, 47), 3), ((92, 200002), 3), ((92, 300002), 3), ((92, 400002), 3), ((92, 100005), 3), ((92, 200005), 3), ((92, 300005), 3), ((92, 200003), 3), ((92, 300003), 3), ((92, 400003), 3), ((93, 30), 73), ((93, 37), 73), ((93, 55), 62), ((93, 57), 62), ((93, 58), 62), ((93, 65), 62), ((93, 67), 62), ((93, 200003), 111), ((93, 300003), 73), ((93, 400003), 3), ((93, 500003), 3), ((93, 600003), 3), ((93, 200004), 62), ((93, 200005), 62), ((94, 8), 111), ((94, 14), 73), ((94, 20), 111), ((94, 33), 111), ((94, 42), 3), ((94, 45), 73), ((94, 51), 3), ((94, 69), 73), ((94, 82), 73), ((94, 200001), 111), ((94, 300001), 73), ((94, 200004), 3), ((95, 13), 3), ((95, 21), 3), ((95, 27), 3), ((95, 33), 3), ((95, 200001), 3), ((95, 300001), 3), ((95, 400001), 3), ((96, 200002), 3), ((96, 300002), 3), ((96, 400002), 3), ((98, 0), 3), ((98, 5), 3), ((99, 200003), 3), ((99, 300003), 3), ((99, 400003), 3), ((100, 8), 3), ((100, 200003), 3), ((100, 300003), 3), ((100, 400003), 3), ((101, 8), 3), ((101, 200003), 3), ((101, 300003), 3), ((101, 400003), 3), ((102, 8), 111), ((102, 14), 73), ((102, 20), 111), ((102, 29), 73), ((102, 35), 111), ((102, 44), 73), ((102, 56), 73), ((102, 200001), 111), ((102, 300001), 73), ((102, 200004), 3), ((103, 6), 3), ((103, 21), 3), ((103, 31), 3), ((103, 42), 3), ((103, 44), 3), ((103, 45), 27), ((103, 50), 3), ((103, 51), 3), ((103, 54), 3), ((103, 200001), 3), ((103, 300001), 3), ((103, 400001), 3), ((104, 7), 111), ((105, 14), 73), ((105, 24), 73), ((105, 200002), 111), ((105, 300002), 73), ((105, 400002), 3), ((105, 500002), 3), ((105, 600002), 3), ((106, 3), 73), ((106, 5), 9), ((106, 43), 73), ((106, 44), 73), ((106, 48), 73), ((106, 61), 9), ((106, 70), 9), ((106, 73), 9), ((106, 93), 73), ((106, 102), 3), ((106, 104), 3), ((106, 105), 3), ((106, 109), 111), ((106, 111), 111), ((106, 112), 111), ((106, 200002), 111), ((106, 300002), 73), ((106, 200004), 111), ((106, 300004), 73), ((106, 200007), 3), ((107, 27), 3), ((107, 29), 3), ((107, 30), 3), ((107, 34), 3), ((107, 38), 3), ((107, 200004), 3), ((107, 300004), 3), ((107, 400004), 3), ((107, 200005), 3), ((107, 300005), 3), ((107, 400005), 3), ((107, 100034), 3), ((107, 100038), 3), ((108, 1), 9), ((108, 5), 9), ((108, 7), 9), ((110, 0), 111), ((110, 7), 111), ((110, 200006), 3), ((111, 0), 73), ((111, 7), 73), ((112, 1), 3), ((112, 7), 3), ((112, 30), 3), ((112, 200002), 3), ((112, 300002), 3), ((112, 400002), 3), ((113, 0), 3), ((113, 6), 3), ((113, 12), 3), ((114, 200002), 3), ((114, 300002), 3), ((114, 400002), 3), ((115, 7), 3), ((115, 14), 3), ((116, 0), 3), ((116, 7), 3), ((117, 200003), 3), ((117, 300003), 3), ((117, 400003), 3), ((118, 11), 3), ((118, 29), 3), ((118, 200002), 3), ((119, 0), 111), ((119, 5), 111), ((121, 0), 73), ((121, 5), 73), ((122, 0), 3), ((122, 5), 3), ((122, 10), 3), ((122, 15), 3), ((123, 200002), 3), ((123, 300002), 3), ((123, 400002), 3), ((124, 4), 3), ((124, 5), 3), ((124, 26), 3), ((124, 31), 3), ((124, 32), 3), ((124, 200003), 3), ((124, 300003), 3), ((124, 400003), 3), ((124, 100031), 3), ((125, 0), 3), ((125, 9), 3), ((125, 25), 3), ((128, 0), 111), ((128, 6), 111), ((128, 12), 111), ((129, 200002), 3), ((130, 0), 73), ((130, 6), 73), ((130, 12), 73), ((132, 0), 3), ((132, 4), 3), ((132, 6), 3), ((132, 8), 3), ((132, 12), 3), ((132, 22), 3), ((132, 26), 3), ((132, 33), 3), ((132, 34), 3), ((132, 35), 3), ((132, 37), 3), ((132, 38), 3), ((132, 39), 3), ((132, 41), 3), ((132, 42), 3), ((132, 43), 3), ((132, 44), 3), ((132, 46), 3), ((132, 47), 3)]
def capAt : List (Nat × List (Option TypeId)) → Nat → List (Option TypeId)
  | [], _ => []
  | (a, h) :: r, f => bif Nat.beq a f then h else capAt r f
def ke16 : KE := ⟨DBoard × DState × DWorks, fun a => .tup [.agg [slc cTerrain a.1.Rules.Terrains, slc cKind a.1.Rules.Kinds, I a.1.Rules.Stack, I a.1.Rules.River, I a.1.Rules.Road, I a.1.Rules.Supply, I a.1.Rules.Turns, I a.1.Map.Width, I a.1.Map.Height, slc cI a.1.Map.Terrain, slc cI a.1.Map.Rivers, slc cI a.1.Map.Roads], .agg [I a.2.1.Turn, I a.2.1.Weather, .own (.r 0 0) none 0 a.2.1.Units.length a.2.1.Units.length], .agg [I a.2.2.Side, I a.2.2.At, I a.2.2.Points, slc cI a.2.2.Queue]], fun a => [(.r 0 0, some (rowB true false 4 cUnit a.2.1.Units))]⟩
def ke24 : KE := ⟨DState, fun a => .agg [I a.Turn, I a.Weather, .own (.r 0 0) none 0 a.Units.length a.Units.length], fun a => [(.r 0 0, some (rowB true false 4 cUnit a.Units))]⟩
def ke31 : KE := ⟨DState, fun a => .agg [I a.Turn, I a.Weather, .own (.r 0 0) none 0 a.Units.length a.Units.length], fun a => [(.r 0 0, some (rowB true false 4 cUnit a.Units))]⟩
def ke43 : KE := ⟨DBoard × DState, fun a => .tup [.agg [slc cTerrain a.1.Rules.Terrains, slc cKind a.1.Rules.Kinds, I a.1.Rules.Stack, I a.1.Rules.River, I a.1.Rules.Road, I a.1.Rules.Supply, I a.1.Rules.Turns, I a.1.Map.Width, I a.1.Map.Height, slc cI a.1.Map.Terrain, slc cI a.1.Map.Rivers, slc cI a.1.Map.Roads], .agg [I a.2.Turn, I a.2.Weather, .own (.r 0 0) none 0 a.2.Units.length a.2.Units.length]], fun a => [(.r 0 0, some (rowB true false 4 cUnit a.2.Units))]⟩
def ke55 : KE := ⟨List DUnit, fun a => .own (.r 0 0) none 0 a.length a.length, fun a => [(.r 0 0, some (rowB true false 4 cUnit a))]⟩
def ke56 : KE := ⟨List Int, fun a => .own (.r 0 0) none 0 a.length a.length, fun a => [(.r 0 0, some (rowB true false 1 cI a))]⟩
def ke70 : KE := ⟨DState, fun a => .agg [I a.Turn, I a.Weather, .own (.r 0 0) none 0 a.Units.length a.Units.length], fun a => [(.r 0 0, some (rowB true false 4 cUnit a.Units))]⟩
def ke93 : KE := ⟨DState, fun a => .agg [I a.Turn, I a.Weather, .own (.r 0 0) none 0 a.Units.length a.Units.length], fun a => [(.r 0 0, some (rowB true false 4 cUnit a.Units))]⟩
def cTerrainN (x : DTerrain) : List AV := [S x.Name, .nst 1 x.Cost.length (x.Cost.flatMap cI), I x.Shift, I x.Height, B x.Blocks]
def ke106 : KE := ⟨(DRules) × List DKind, fun a => .agg [.own (.r 0 0) none 0 a.1.Terrains.length a.1.Terrains.length, .own (.r 0 1) none 0 a.1.Kinds.length (a.1.Kinds.length + a.2.length), I a.1.Stack, I a.1.River, I a.1.Road, I a.1.Supply, I a.1.Turns], fun a => [(.r 0 0, some (rowB true true 5 cTerrainN a.1.Terrains)), (.r 0 1, some (rowB true false 6 cKind (a.1.Kinds ++ a.2)))]⟩
def ke107 : KE := ⟨DMap, fun a => .agg [I a.Width, I a.Height, .own (.r 0 0) none 0 a.Terrain.length a.Terrain.length, .own (.r 0 1) none 0 a.Rivers.length a.Rivers.length, .own (.r 0 2) none 0 a.Roads.length a.Roads.length], fun a => [(.r 0 0, some (rowB true false 1 cI a.Terrain)), (.r 0 1, some (rowB true false 1 cI a.Rivers)), (.r 0 2, some (rowB true false 1 cI a.Roads))]⟩
def ke124 : KE := ⟨List Int, fun a => .own (.r 0 0) none 0 a.length a.length, fun a => [(.r 0 0, some (rowB true false 1 cI a))]⟩
def ke132 : KE := ⟨List Int, fun a => .own (.r 0 0) none 0 a.length a.length, fun a => [(.r 0 0, some (rowB true false 1 cI a))]⟩
def kl132 : KE := ⟨Nat, fun a => .own (.l 0) none 0 a a, fun _ => []⟩
def tnTerrain : TE := ⟨DTerrain, true, cTerrainN⟩
def tblN : Tbl := tblAt [(111, tnTerrain), (110, tnTerrain)]
def T : Hn := { t := tbl, row := fun f id => match id with | .v t => rowAt rowTab f t | .h t k => (rowAt rowTab f (t + 100000 * (k + 1))).or (rowAt rowTab f t) | .r t k => (rowAt rowTab f (t + 100000 * (k + 1))).or (rowAt rowTab f t) | .l i => rowAt rowTab f i, n := tblN, cap := capAt [(52, [some 31]), (104, [some 31]), (129, [some 9]), (131, [some 9])], kept := fun f _ => bif Nat.beq f 16 then [ke16] else bif Nat.beq f 24 then [ke24] else bif Nat.beq f 31 then [ke31] else bif Nat.beq f 43 then [ke43] else bif Nat.beq f 55 then [ke55] else bif Nat.beq f 56 then [ke56] else bif Nat.beq f 70 then [ke70] else bif Nat.beq f 93 then [ke93] else bif Nat.beq f 106 then [ke106] else bif Nat.beq f 107 then [ke107] else bif Nat.beq f 124 then [ke124] else bif Nat.beq f 132 then [kl132, ke132] else [] }
def hintAt : List ((Nat × Nat) × List (Nat × Option Nat)) → Nat → Nat → List (Nat × Option Nat)
  | [], _, _ => []
  | (a, h) :: r, f, i => bif Nat.beq a.1 f && Nat.beq a.2 i then h else hintAt r f i
def hints : List ((Nat × Nat) × List (Nat × Option Nat)) := [((23, 2), [(2, none), (3, none), (4, none), (12, none), (13, none), (14, none)]), ((39, 4), [(0, none), (1, none), (12, none), (13, none)]), ((40, 4), [(0, none), (1, none), (12, none), (13, none)]), ((44, 6), [(0, none), (3, none), (4, none), (5, none), (6, none), (1005003, some 1)]), ((44, 17), [(0, none), (4, none), (5, none), (1005003, some 1)]), ((46, 4), [(2, none), (3, none), (34, none), (35, none), (36, none)]), ((46, 10), [(2, none), (3, none), (46, none), (47, none), (48, none)]), ((54, 4), [(2, none), (3, none), (4, none), (30, none)]), ((58, 3), [(2, none), (3, none), (4, none), (5, none), (9, some 1), (13, none), (14, none), (15, none)]), ((67, 2), [(1, none), (8, none), (9, none), (10, none)]), ((68, 3), [(1, none), (2, none), (7, some 1), (11, none), (12, none), (13, none)]), ((70, 17), [(0, none), (4, none), (5, none), (1005002, some 4)]), ((76, 2), [(0, none), (1, none), (7, none), (8, none)]), ((81, 2), [(1, none), (2, none), (9, none), (10, none), (11, none)]), ((82, 5), [(3, none), (4, none), (9, none), (10, none)]), ((85, 5), [(2, none), (5, none), (31, none), (32, none), (33, none)]), ((87, 2), [(1, none), (8, none), (9, none), (10, none)]), ((88, 3), [(1, none), (5, some 1), (10, none), (11, none), (12, none)]), ((93, 3), [(0, none), (3, none), (4, none), (5, none), (6, none), (1005002, some 4)]), ((94, 4), [(1, none), (20, none), (21, none), (22, none)]), ((94, 10), [(1, none), (69, none), (70, none), (71, none)]), ((102, 4), [(1, none), (20, none), (21, none), (22, none)]), ((102, 10), [(1, none), (44, none), (45, none), (46, none)]), ((103, 4), [(1, none), (31, none), (32, none), (33, none)]), ((103, 10), [(1, none), (45, none), (46, none), (47, none)]), ((103, 15), [(1, none), (45, none), (46, none), (47, none), (54, none), (55, none), (56, none)]), ((106, 5), [(0, none), (2, none), (4, none), (5, none), (6, none), (1004000, some 1005)]), ((106, 10), [(0, none), (2, none), (4, none), (5, none), (6, none), (7, none), (94, none), (95, none), (1007001, some 1)]), ((107, 3), [(0, none), (1, none), (4, none), (5, none), (6, none), (1005002, some 1)]), ((109, 2), [(0, none), (3, none)]), ((110, 2), [(1, none), (7, none), (8, none), (9, none)]), ((111, 2), [(1, none), (7, none), (8, none), (9, none)]), ((112, 2), [(1, none), (2, none), (7, none), (8, none), (9, none)]), ((113, 2), [(0, none), (1, none), (7, none), (8, none)]), ((116, 2), [(1, none), (7, none), (8, none), (9, none)]), ((122, 2), [(0, none), (3, none)]), ((124, 3), [(0, none), (3, none), (5, some 1), (6, none)]), ((125, 2), [(0, none), (1, none), (2, none), (9, none), (10, none), (11, none)]), ((126, 2), [(0, none), (3, none)]), ((128, 2), [(0, none), (1, none), (7, none), (8, none)]), ((130, 2), [(0, none), (1, none), (7, none), (8, none)]), ((132, 2), [(0, none), (1, none), (5, none)]), ((55, 1000002), [(0, none)]), ((56, 1000002), [(0, none)]), ((16, 1000000), [(0, some 5), (1, some 6), (9, some 1), (10, some 1), (11, some 1), (102, some 4), (203, some 1)]), ((24, 1000000), [(2, some 4)]), ((24, 1000001), [(0, none)]), ((31, 1000000), [(2, some 4)]), ((31, 1000001), [(0, none)]), ((43, 1000000), [(0, some 5), (1, some 6), (9, some 1), (10, some 1), (11, some 1), (102, some 4)]), ((55, 1000000), [(0, some 4)]), ((55, 1000001), [(0, none)]), ((56, 1000000), [(0, some 1)]), ((56, 1000001), [(0, none)]), ((70, 1000000), [(2, some 4)]), ((70, 1000001), [(0, none)]), ((93, 1000000), [(2, some 4)]), ((93, 1000001), [(0, none)]), ((106, 1000000), [(0, some 1005), (1, some 6)]), ((107, 1000000), [(2, some 1), (3, some 1), (4, some 1)]), ((107, 1000001), [(0, none)]), ((124, 1000000), [(0, some 1)]), ((124, 1000001), [(0, none)]), ((132, 1000000), [(0, some 1)]), ((132, 1000001), [(0, none)])]
variable [Inhabited Known]
noncomputable def G : Cfg := { kn := (default : Known).kn, P := Tryz.prog, glob := fun g => bif Nat.beq g 0 then some [I 1, I 0, I 1, I (-1), I 0, I (-1), I (-1), I 0, I (-1), I 1, I 0, I 1] else none, lend := fun f i => (Nat.beq f 132 && Nat.beq i 0) || (Nat.beq f 42 && Nat.beq i 0), keep := fun f => Nat.beq f 132 || Nat.beq f 124 || Nat.beq f 107 || Nat.beq f 106 || Nat.beq f 93 || Nat.beq f 70 || Nat.beq f 43 || Nat.beq f 16 || Nat.beq f 24 || Nat.beq f 31 || Nat.beq f 55 || Nat.beq f 56, inl := fun f => Nat.beq f 106 || Nat.beq f 91, hint := hintAt hints }
end Go.Ev
/-
  LEMMAS on the program's data: cells are told apart, of one number; slice types; written by a program (types.py).
-/
namespace Go.Ev
open Go Go.Proofs
set_option linter.unusedSimpArgs false
theorem byte_inj (a b : UInt8) : ((a.toNat : Int) = (b.toNat : Int)) ↔ a = b := ⟨fun h => UInt8.toNat_inj.1 (by omega), fun h => h ▸ rfl⟩
theorem cY_eq (a b : UInt8) : cY a = cY b ↔ a = b := by simp [cY, byte_inj]
attribute [simp] cY_eq
theorem ok_cY : COk cY 1 := ⟨fun _ => rfl, fun a b h => (cY_eq a b).1 h⟩
@[simp] theorem rw_cY {fr nest : Bool} {l m : List UInt8} : rowB fr nest 1 cY l = rowB fr nest 1 cY m ↔ l = m := rowB_eq ok_cY (by decide)
@[simp] theorem slc_cY (l m : List UInt8) : slc cY l = slc cY m ↔ l = m := slc_eq ok_cY
theorem cLY_eq (a b : List UInt8) : cLY a = cLY b ↔ a = b := by simp [cLY, byte_inj]
attribute [simp] cLY_eq
theorem ok_cLY : COk cLY 1 := ⟨fun _ => rfl, fun a b h => (cLY_eq a b).1 h⟩
@[simp] theorem rw_cLY {fr nest : Bool} {l m : List (List UInt8)} : rowB fr nest 1 cLY l = rowB fr nest 1 cLY m ↔ l = m := rowB_eq ok_cLY (by decide)
@[simp] theorem slc_cLY (l m : List (List UInt8)) : slc cLY l = slc cLY m ↔ l = m := slc_eq ok_cLY
theorem cB_eq (a b : Bool) : cB a = cB b ↔ a = b := by simp [cB, byte_inj]
attribute [simp] cB_eq
theorem ok_cB : COk cB 1 := ⟨fun _ => rfl, fun a b h => (cB_eq a b).1 h⟩
@[simp] theorem rw_cB {fr nest : Bool} {l m : List Bool} : rowB fr nest 1 cB l = rowB fr nest 1 cB m ↔ l = m := rowB_eq ok_cB (by decide)
@[simp] theorem slc_cB (l m : List Bool) : slc cB l = slc cB m ↔ l = m := slc_eq ok_cB
theorem cI_eq (a b : Int) : cI a = cI b ↔ a = b := by simp [cI, byte_inj]
attribute [simp] cI_eq
theorem ok_cI : COk cI 1 := ⟨fun _ => rfl, fun a b h => (cI_eq a b).1 h⟩
@[simp] theorem rw_cI {fr nest : Bool} {l m : List Int} : rowB fr nest 1 cI l = rowB fr nest 1 cI m ↔ l = m := rowB_eq ok_cI (by decide)
@[simp] theorem slc_cI (l m : List Int) : slc cI l = slc cI m ↔ l = m := slc_eq ok_cI
theorem cS_eq (a b : ByteArray) : cS a = cS b ↔ a = b := by simp [cS, byte_inj]
attribute [simp] cS_eq
theorem ok_cS : COk cS 1 := ⟨fun _ => rfl, fun a b h => (cS_eq a b).1 h⟩
@[simp] theorem rw_cS {fr nest : Bool} {l m : List ByteArray} : rowB fr nest 1 cS l = rowB fr nest 1 cS m ↔ l = m := rowB_eq ok_cS (by decide)
@[simp] theorem slc_cS (l m : List ByteArray) : slc cS l = slc cS m ↔ l = m := slc_eq ok_cS
theorem cLI_eq (a b : List Int) : cLI a = cLI b ↔ a = b := by simp [cLI, byte_inj]
attribute [simp] cLI_eq
theorem ok_cLI : COk cLI 1 := ⟨fun _ => rfl, fun a b h => (cLI_eq a b).1 h⟩
@[simp] theorem rw_cLI {fr nest : Bool} {l m : List (List Int)} : rowB fr nest 1 cLI l = rowB fr nest 1 cLI m ↔ l = m := rowB_eq ok_cLI (by decide)
@[simp] theorem slc_cLI (l m : List (List Int)) : slc cLI l = slc cLI m ↔ l = m := slc_eq ok_cLI
theorem cTerrain_eq (a b : DTerrain) : cTerrain a = cTerrain b ↔ a = b := by
  obtain ⟨_, _, _, _, _⟩ := a
  obtain ⟨_, _, _, _, _⟩ := b
  simp [cTerrain, and_assoc, byte_inj]
attribute [simp] cTerrain_eq
theorem ok_cTerrain : COk cTerrain 5 := ⟨fun _ => rfl, fun a b h => (cTerrain_eq a b).1 h⟩
@[simp] theorem rw_cTerrain {fr nest : Bool} {l m : List DTerrain} : rowB fr nest 5 cTerrain l = rowB fr nest 5 cTerrain m ↔ l = m := rowB_eq ok_cTerrain (by decide)
@[simp] theorem slc_cTerrain (l m : List DTerrain) : slc cTerrain l = slc cTerrain m ↔ l = m := slc_eq ok_cTerrain
theorem cLTerrain_eq (a b : List DTerrain) : cLTerrain a = cLTerrain b ↔ a = b := by simp [cLTerrain, byte_inj]
attribute [simp] cLTerrain_eq
theorem ok_cLTerrain : COk cLTerrain 1 := ⟨fun _ => rfl, fun a b h => (cLTerrain_eq a b).1 h⟩
@[simp] theorem rw_cLTerrain {fr nest : Bool} {l m : List (List DTerrain)} : rowB fr nest 1 cLTerrain l = rowB fr nest 1 cLTerrain m ↔ l = m := rowB_eq ok_cLTerrain (by decide)
@[simp] theorem slc_cLTerrain (l m : List (List DTerrain)) : slc cLTerrain l = slc cLTerrain m ↔ l = m := slc_eq ok_cLTerrain
theorem cKind_eq (a b : DKind) : cKind a = cKind b ↔ a = b := by
  obtain ⟨_, _, _, _, _, _⟩ := a
  obtain ⟨_, _, _, _, _, _⟩ := b
  simp [cKind, and_assoc, byte_inj]
attribute [simp] cKind_eq
theorem ok_cKind : COk cKind 6 := ⟨fun _ => rfl, fun a b h => (cKind_eq a b).1 h⟩
@[simp] theorem rw_cKind {fr nest : Bool} {l m : List DKind} : rowB fr nest 6 cKind l = rowB fr nest 6 cKind m ↔ l = m := rowB_eq ok_cKind (by decide)
@[simp] theorem slc_cKind (l m : List DKind) : slc cKind l = slc cKind m ↔ l = m := slc_eq ok_cKind
theorem cLKind_eq (a b : List DKind) : cLKind a = cLKind b ↔ a = b := by simp [cLKind, byte_inj]
attribute [simp] cLKind_eq
theorem ok_cLKind : COk cLKind 1 := ⟨fun _ => rfl, fun a b h => (cLKind_eq a b).1 h⟩
@[simp] theorem rw_cLKind {fr nest : Bool} {l m : List (List DKind)} : rowB fr nest 1 cLKind l = rowB fr nest 1 cLKind m ↔ l = m := rowB_eq ok_cLKind (by decide)
@[simp] theorem slc_cLKind (l m : List (List DKind)) : slc cLKind l = slc cLKind m ↔ l = m := slc_eq ok_cLKind
theorem cRules_eq (a b : DRules) : cRules a = cRules b ↔ a = b := by
  obtain ⟨_, _, _, _, _, _, _⟩ := a
  obtain ⟨_, _, _, _, _, _, _⟩ := b
  simp [cRules, and_assoc, byte_inj]
attribute [simp] cRules_eq
theorem ok_cRules : COk cRules 7 := ⟨fun _ => rfl, fun a b h => (cRules_eq a b).1 h⟩
@[simp] theorem rw_cRules {fr nest : Bool} {l m : List DRules} : rowB fr nest 7 cRules l = rowB fr nest 7 cRules m ↔ l = m := rowB_eq ok_cRules (by decide)
@[simp] theorem slc_cRules (l m : List DRules) : slc cRules l = slc cRules m ↔ l = m := slc_eq ok_cRules
theorem cMap_eq (a b : DMap) : cMap a = cMap b ↔ a = b := by
  obtain ⟨_, _, _, _, _⟩ := a
  obtain ⟨_, _, _, _, _⟩ := b
  simp [cMap, and_assoc, byte_inj]
attribute [simp] cMap_eq
theorem ok_cMap : COk cMap 5 := ⟨fun _ => rfl, fun a b h => (cMap_eq a b).1 h⟩
@[simp] theorem rw_cMap {fr nest : Bool} {l m : List DMap} : rowB fr nest 5 cMap l = rowB fr nest 5 cMap m ↔ l = m := rowB_eq ok_cMap (by decide)
@[simp] theorem slc_cMap (l m : List DMap) : slc cMap l = slc cMap m ↔ l = m := slc_eq ok_cMap
theorem cBoard_eq (a b : DBoard) : cBoard a = cBoard b ↔ a = b := by
  obtain ⟨⟨_, _, _, _, _, _, _⟩, ⟨_, _, _, _, _⟩⟩ := a
  obtain ⟨⟨_, _, _, _, _, _, _⟩, ⟨_, _, _, _, _⟩⟩ := b
  simp [cBoard, and_assoc, byte_inj]
attribute [simp] cBoard_eq
theorem ok_cBoard : COk cBoard 12 := ⟨fun _ => rfl, fun a b h => (cBoard_eq a b).1 h⟩
@[simp] theorem rw_cBoard {fr nest : Bool} {l m : List DBoard} : rowB fr nest 12 cBoard l = rowB fr nest 12 cBoard m ↔ l = m := rowB_eq ok_cBoard (by decide)
@[simp] theorem slc_cBoard (l m : List DBoard) : slc cBoard l = slc cBoard m ↔ l = m := slc_eq ok_cBoard
theorem cUnit_eq (a b : DUnit) : cUnit a = cUnit b ↔ a = b := by
  obtain ⟨_, _, _, _⟩ := a
  obtain ⟨_, _, _, _⟩ := b
  simp [cUnit, and_assoc, byte_inj]
attribute [simp] cUnit_eq
theorem ok_cUnit : COk cUnit 4 := ⟨fun _ => rfl, fun a b h => (cUnit_eq a b).1 h⟩
@[simp] theorem rw_cUnit {fr nest : Bool} {l m : List DUnit} : rowB fr nest 4 cUnit l = rowB fr nest 4 cUnit m ↔ l = m := rowB_eq ok_cUnit (by decide)
@[simp] theorem slc_cUnit (l m : List DUnit) : slc cUnit l = slc cUnit m ↔ l = m := slc_eq ok_cUnit
theorem cLUnit_eq (a b : List DUnit) : cLUnit a = cLUnit b ↔ a = b := by simp [cLUnit, byte_inj]
attribute [simp] cLUnit_eq
theorem ok_cLUnit : COk cLUnit 1 := ⟨fun _ => rfl, fun a b h => (cLUnit_eq a b).1 h⟩
@[simp] theorem rw_cLUnit {fr nest : Bool} {l m : List (List DUnit)} : rowB fr nest 1 cLUnit l = rowB fr nest 1 cLUnit m ↔ l = m := rowB_eq ok_cLUnit (by decide)
@[simp] theorem slc_cLUnit (l m : List (List DUnit)) : slc cLUnit l = slc cLUnit m ↔ l = m := slc_eq ok_cLUnit
theorem cState_eq (a b : DState) : cState a = cState b ↔ a = b := by
  obtain ⟨_, _, _⟩ := a
  obtain ⟨_, _, _⟩ := b
  simp [cState, and_assoc, byte_inj]
attribute [simp] cState_eq
theorem ok_cState : COk cState 3 := ⟨fun _ => rfl, fun a b h => (cState_eq a b).1 h⟩
@[simp] theorem rw_cState {fr nest : Bool} {l m : List DState} : rowB fr nest 3 cState l = rowB fr nest 3 cState m ↔ l = m := rowB_eq ok_cState (by decide)
@[simp] theorem slc_cState (l m : List DState) : slc cState l = slc cState m ↔ l = m := slc_eq ok_cState
theorem cWorks_eq (a b : DWorks) : cWorks a = cWorks b ↔ a = b := by
  obtain ⟨_, _, _, _⟩ := a
  obtain ⟨_, _, _, _⟩ := b
  simp [cWorks, and_assoc, byte_inj]
attribute [simp] cWorks_eq
theorem ok_cWorks : COk cWorks 4 := ⟨fun _ => rfl, fun a b h => (cWorks_eq a b).1 h⟩
@[simp] theorem rw_cWorks {fr nest : Bool} {l m : List DWorks} : rowB fr nest 4 cWorks l = rowB fr nest 4 cWorks m ↔ l = m := rowB_eq ok_cWorks (by decide)
@[simp] theorem slc_cWorks (l m : List DWorks) : slc cWorks l = slc cWorks m ↔ l = m := slc_eq ok_cWorks
theorem cU64_eq (a b : Int) : cU64 a = cU64 b ↔ a = b := by simp [cU64, byte_inj]
attribute [simp] cU64_eq
theorem ok_cU64 : COk cU64 1 := ⟨fun _ => rfl, fun a b h => (cU64_eq a b).1 h⟩
@[simp] theorem rw_cU64 {fr nest : Bool} {l m : List Int} : rowB fr nest 1 cU64 l = rowB fr nest 1 cU64 m ↔ l = m := rowB_eq ok_cU64 (by decide)
@[simp] theorem slc_cU64 (l m : List Int) : slc cU64 l = slc cU64 m ↔ l = m := slc_eq ok_cU64
theorem cl1Cur_eq (a b : Dl1Cur) : cl1Cur a = cl1Cur b ↔ a = b := by
  obtain ⟨_, _, _⟩ := a
  obtain ⟨_, _, _⟩ := b
  simp [cl1Cur, and_assoc, byte_inj]
attribute [simp] cl1Cur_eq
theorem ok_cl1Cur : COk cl1Cur 3 := ⟨fun _ => rfl, fun a b h => (cl1Cur_eq a b).1 h⟩
@[simp] theorem rw_cl1Cur {fr nest : Bool} {l m : List Dl1Cur} : rowB fr nest 3 cl1Cur l = rowB fr nest 3 cl1Cur m ↔ l = m := rowB_eq ok_cl1Cur (by decide)
@[simp] theorem slc_cl1Cur (l m : List Dl1Cur) : slc cl1Cur l = slc cl1Cur m ↔ l = m := slc_eq ok_cl1Cur
theorem cHex_eq (a b : DHex) : cHex a = cHex b ↔ a = b := by
  obtain ⟨_, _⟩ := a
  obtain ⟨_, _⟩ := b
  simp [cHex, and_assoc, byte_inj]
attribute [simp] cHex_eq
theorem ok_cHex : COk cHex 2 := ⟨fun _ => rfl, fun a b h => (cHex_eq a b).1 h⟩
@[simp] theorem rw_cHex {fr nest : Bool} {l m : List DHex} : rowB fr nest 2 cHex l = rowB fr nest 2 cHex m ↔ l = m := rowB_eq ok_cHex (by decide)
@[simp] theorem slc_cHex (l m : List DHex) : slc cHex l = slc cHex m ↔ l = m := slc_eq ok_cHex
theorem cA2I_eq (a b : A2I) : cA2I a = cA2I b ↔ a = b := by
  obtain ⟨_, _⟩ := a
  obtain ⟨_, _⟩ := b
  simp [cA2I, and_assoc, byte_inj]
attribute [simp] cA2I_eq
theorem ok_cA2I : COk cA2I 2 := ⟨fun _ => rfl, fun a b h => (cA2I_eq a b).1 h⟩
@[simp] theorem rw_cA2I {fr nest : Bool} {l m : List A2I} : rowB fr nest 2 cA2I l = rowB fr nest 2 cA2I m ↔ l = m := rowB_eq ok_cA2I (by decide)
@[simp] theorem slc_cA2I (l m : List A2I) : slc cA2I l = slc cA2I m ↔ l = m := slc_eq ok_cA2I
theorem cLA2I_eq (a b : List A2I) : cLA2I a = cLA2I b ↔ a = b := by simp [cLA2I, byte_inj]
attribute [simp] cLA2I_eq
theorem ok_cLA2I : COk cLA2I 1 := ⟨fun _ => rfl, fun a b h => (cLA2I_eq a b).1 h⟩
@[simp] theorem rw_cLA2I {fr nest : Bool} {l m : List (List A2I)} : rowB fr nest 1 cLA2I l = rowB fr nest 1 cLA2I m ↔ l = m := rowB_eq ok_cLA2I (by decide)
@[simp] theorem slc_cLA2I (l m : List (List A2I)) : slc cLA2I l = slc cLA2I m ↔ l = m := slc_eq ok_cLA2I
theorem cLS_eq (a b : List ByteArray) : cLS a = cLS b ↔ a = b := by simp [cLS, byte_inj]
attribute [simp] cLS_eq
theorem ok_cLS : COk cLS 1 := ⟨fun _ => rfl, fun a b h => (cLS_eq a b).1 h⟩
@[simp] theorem rw_cLS {fr nest : Bool} {l m : List (List ByteArray)} : rowB fr nest 1 cLS l = rowB fr nest 1 cLS m ↔ l = m := rowB_eq ok_cLS (by decide)
@[simp] theorem slc_cLS (l m : List (List ByteArray)) : slc cLS l = slc cLS m ↔ l = m := slc_eq ok_cLS
theorem cA6Hex_eq (a b : A6Hex) : cA6Hex a = cA6Hex b ↔ a = b := by
  obtain ⟨⟨_, _⟩, ⟨_, _⟩, ⟨_, _⟩, ⟨_, _⟩, ⟨_, _⟩, ⟨_, _⟩⟩ := a
  obtain ⟨⟨_, _⟩, ⟨_, _⟩, ⟨_, _⟩, ⟨_, _⟩, ⟨_, _⟩, ⟨_, _⟩⟩ := b
  simp [cA6Hex, and_assoc, byte_inj]
attribute [simp] cA6Hex_eq
theorem ok_cA6Hex : COk cA6Hex 12 := ⟨fun _ => rfl, fun a b h => (cA6Hex_eq a b).1 h⟩
@[simp] theorem rw_cA6Hex {fr nest : Bool} {l m : List A6Hex} : rowB fr nest 12 cA6Hex l = rowB fr nest 12 cA6Hex m ↔ l = m := rowB_eq ok_cA6Hex (by decide)
@[simp] theorem slc_cA6Hex (l m : List A6Hex) : slc cA6Hex l = slc cA6Hex m ↔ l = m := slc_eq ok_cA6Hex
theorem cLLI_eq (a b : List (List Int)) : cLLI a = cLLI b ↔ a = b := by simp [cLLI, byte_inj]
attribute [simp] cLLI_eq
theorem ok_cLLI : COk cLLI 1 := ⟨fun _ => rfl, fun a b h => (cLLI_eq a b).1 h⟩
@[simp] theorem rw_cLLI {fr nest : Bool} {l m : List (List (List Int))} : rowB fr nest 1 cLLI l = rowB fr nest 1 cLLI m ↔ l = m := rowB_eq ok_cLLI (by decide)
@[simp] theorem slc_cLLI (l m : List (List (List Int))) : slc cLLI l = slc cLLI m ↔ l = m := slc_eq ok_cLLI
theorem cTerrainN_eq (a b : DTerrain) : cTerrainN a = cTerrainN b ↔ a = b := by
  obtain ⟨_, _, _, _, _⟩ := a
  obtain ⟨_, _, _, _, _⟩ := b
  simp only [cTerrainN, List.cons.injEq, AV.sc.injEq, Value.string.injEq, Value.int.injEq, Value.bool.injEq, nst_eq ok_cI, true_and, and_true, DTerrain.mk.injEq]
attribute [simp] cTerrainN_eq
theorem ok_cTerrainN : COk cTerrainN 5 := ⟨fun _ => rfl, fun a b h => (cTerrainN_eq a b).1 h⟩
@[simp] theorem rw_cTerrainN {fr nest : Bool} {l m : List DTerrain} : rowB fr nest 5 cTerrainN l = rowB fr nest 5 cTerrainN m ↔ l = m := rowB_eq ok_cTerrainN (by decide)
theorem sl_cY : SlOk Tryz.prog 22 cY := ⟨5, 1, by kernel_rfl, by kernel_rfl, ok_cY⟩
theorem rt_cY : RowT Tryz.prog 22 cY 1 1 := ⟨ok_cY, by decide, fun _ => rfl, ⟨5, [.sc (.int .u8 0)], by kernel_rfl, by kernel_rfl, by kernel_rfl, by kernel_rfl, rfl⟩⟩
theorem ag_cY : szT Tryz.prog 5 = some 1 ∧ aggT Tryz.prog 5 = some false := ⟨by kernel_rfl, by kernel_rfl⟩
theorem sl_cTerrain : SlOk Tryz.prog 23 cTerrain := ⟨111, 5, by kernel_rfl, by kernel_rfl, ok_cTerrain⟩
theorem rt_cTerrain : RowT Tryz.prog 23 cTerrain 5 64 := ⟨ok_cTerrain, by decide, fun _ => rfl, ⟨111, [S ByteArray.empty, .emp, I 0, I 0, B false], by kernel_rfl, by kernel_rfl, by kernel_rfl, by kernel_rfl, rfl⟩⟩
theorem ag_cTerrain : szT Tryz.prog 111 = some 5 ∧ aggT Tryz.prog 111 = some true := ⟨by kernel_rfl, by kernel_rfl⟩
theorem str_ok : isStrT Tryz.prog 9 = true := by kernel_rfl
theorem sl_cI : SlOk Tryz.prog 27 cI := ⟨3, 1, by kernel_rfl, by kernel_rfl, ok_cI⟩
theorem rt_cI : RowT Tryz.prog 27 cI 1 8 := ⟨ok_cI, by decide, fun _ => rfl, ⟨3, [I 0], by kernel_rfl, by kernel_rfl, by kernel_rfl, by kernel_rfl, rfl⟩⟩
theorem ag_cI : szT Tryz.prog 3 = some 1 ∧ aggT Tryz.prog 3 = some false := ⟨by kernel_rfl, by kernel_rfl⟩
theorem sl_cKind : SlOk Tryz.prog 24 cKind := ⟨73, 6, by kernel_rfl, by kernel_rfl, ok_cKind⟩
theorem rt_cKind : RowT Tryz.prog 24 cKind 6 56 := ⟨ok_cKind, by decide, fun _ => rfl, ⟨73, [S ByteArray.empty, I 0, I 0, I 0, B false, I 0], by kernel_rfl, by kernel_rfl, by kernel_rfl, by kernel_rfl, rfl⟩⟩
theorem ag_cKind : szT Tryz.prog 73 = some 6 ∧ aggT Tryz.prog 73 = some true := ⟨by kernel_rfl, by kernel_rfl⟩
theorem sl_cUnit : SlOk Tryz.prog 32 cUnit := ⟨62, 4, by kernel_rfl, by kernel_rfl, ok_cUnit⟩
theorem rt_cUnit : RowT Tryz.prog 32 cUnit 4 32 := ⟨ok_cUnit, by decide, fun _ => rfl, ⟨62, [I 0, I 0, I 0, I 0], by kernel_rfl, by kernel_rfl, by kernel_rfl, by kernel_rfl, rfl⟩⟩
theorem ag_cUnit : szT Tryz.prog 62 = some 4 ∧ aggT Tryz.prog 62 = some true := ⟨by kernel_rfl, by kernel_rfl⟩
theorem sl_cA2I : SlOk Tryz.prog 123 cA2I := ⟨124, 2, by kernel_rfl, by kernel_rfl, ok_cA2I⟩
theorem rt_cA2I : RowT Tryz.prog 123 cA2I 2 16 := ⟨ok_cA2I, by decide, fun _ => rfl, ⟨124, [I 0, I 0], by kernel_rfl, by kernel_rfl, by kernel_rfl, by kernel_rfl, rfl⟩⟩
theorem ag_cA2I : szT Tryz.prog 124 = some 2 ∧ aggT Tryz.prog 124 = some true := ⟨by kernel_rfl, by kernel_rfl⟩
theorem ar_cA2I : arT Tryz.prog 124 = some (2, 3) ∧ szT Tryz.prog 3 = some 1 ∧ slT Tryz.prog 124 = none := ⟨by kernel_rfl, by kernel_rfl, by kernel_rfl⟩
theorem sl_cS : SlOk Tryz.prog 127 cS := ⟨9, 1, by kernel_rfl, by kernel_rfl, ok_cS⟩
theorem rt_cS : RowT Tryz.prog 127 cS 1 16 := ⟨ok_cS, by decide, fun _ => rfl, ⟨9, [S ByteArray.empty], by kernel_rfl, by kernel_rfl, by kernel_rfl, by kernel_rfl, rfl⟩⟩
theorem ag_cS : szT Tryz.prog 9 = some 1 ∧ aggT Tryz.prog 9 = some false := ⟨by kernel_rfl, by kernel_rfl⟩
theorem ar_cA6Hex : arT Tryz.prog 105 = some (6, 66) ∧ szT Tryz.prog 66 = some 2 ∧ slT Tryz.prog 105 = none := ⟨by kernel_rfl, by kernel_rfl, by kernel_rfl⟩
theorem sl_cLI : SlOk Tryz.prog 136 cLI := ⟨27, 1, by kernel_rfl, by kernel_rfl, ok_cLI⟩
theorem rt_cLI : RowT Tryz.prog 136 cLI 1 24 := ⟨ok_cLI, by decide, fun _ => rfl, ⟨27, [.emp], by kernel_rfl, by kernel_rfl, by kernel_rfl, by kernel_rfl, rfl⟩⟩
theorem ag_cLI : szT Tryz.prog 27 = some 1 ∧ aggT Tryz.prog 27 = some false := ⟨by kernel_rfl, by kernel_rfl⟩
end Go.Ev
