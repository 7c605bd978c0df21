/-
  Ed: one of the texts behind a proof of laws.FnVictory: the program's types as data
  Its conditions: none of its own.
-/
import Derived.Test.YtmjhmlbmglkbcaaGreatDoorEc
import Derived.Test.YtmjhmlbmglkbcaaGreatDoorProg
import Derived.KernelRfl
set_option maxRecDepth 100000
set_option linter.unusedVariables false
set_option linter.unusedSectionVars false
set_option linter.unusedSimpArgs false
/-
  THE DATA that the program handles: its structs, how they lie in cells; the table of types; the configuration of the evaluator.
  Written by a program (types.py) off the translation's own tables.
-/
namespace Go.Ev
open Go Go.Proofs
abbrev I (n : Int) : AV := .sc (.int .i64 n)
abbrev K (k : IntKind) (n : Int) : AV := .sc (.int k n)
abbrev B (b : Bool) : AV := .sc (.bool b)
abbrev S (s : ByteArray) : AV := .sc (.string s)
def cI (n : Int) : List AV := [I n]
def cU64 (n : Int) : List AV := [K .u64 n]
def cI32 (n : Int) : List AV := [K .i32 n]
def cU32 (n : Int) : List AV := [K .u32 n]
def cB (b : Bool) : List AV := [B b]
def cS (s : ByteArray) : List AV := [S s]
/-- A slice of the program's own arguments. -/
structure KSl where
  A : Option Addr
  n : Nat
  k : Nat
def Kn (x : KSl) : AV := .sc (.slice x.A x.n x.k)
@[simp] theorem Kn_eq (a b : KSl) : Kn a = Kn b ↔ a = b := by
  obtain ⟨_, _, _⟩ := a
  obtain ⟨_, _, _⟩ := b
  simp [Kn]
def cLY (l : List UInt8) : List AV := [slc cY l]
def cLI (l : List Int) : List AV := [slc cI l]
structure DTerrain where
  Name : ByteArray
  Cost : List Int
  Shift : Int
  Height : Int
  Blocks : Bool
def cTerrain (x : DTerrain) : List AV := [S x.Name, slc cI x.Cost, I x.Shift, I x.Height, B x.Blocks]
def cLTerrain (l : List DTerrain) : List AV := [slc cTerrain l]
structure DKind where
  Name : ByteArray
  Strength : Int
  Moves : Int
  Steps : Int
  Zone : Bool
  View : Int
def cKind (x : DKind) : List AV := [S x.Name, I x.Strength, I x.Moves, I x.Steps, B x.Zone, I x.View]
def cLKind (l : List DKind) : List AV := [slc cKind l]
structure DRules where
  Terrains : List DTerrain
  Kinds : List DKind
  Stack : Int
  River : Int
  Road : Int
  Supply : Int
  Turns : Int
def cRules (x : DRules) : List AV := [slc cTerrain x.Terrains, slc cKind x.Kinds, I x.Stack, I x.River, I x.Road, I x.Supply, I x.Turns]
structure DMap where
  Width : Int
  Height : Int
  Terrain : List Int
  Rivers : List Int
  Roads : List Int
def cMap (x : DMap) : List AV := [I x.Width, I x.Height, slc cI x.Terrain, slc cI x.Rivers, slc cI x.Roads]
structure DBoard where
  Rules : DRules
  Map : DMap
def cBoard (x : DBoard) : List AV := [slc cTerrain x.Rules.Terrains, slc cKind x.Rules.Kinds, I x.Rules.Stack, I x.Rules.River, I x.Rules.Road, I x.Rules.Supply, I x.Rules.Turns, I x.Map.Width, I x.Map.Height, slc cI x.Map.Terrain, slc cI x.Map.Rivers, slc cI x.Map.Roads]
structure DUnit where
  Side : Int
  Kind : Int
  At : Int
  Steps : Int
def cUnit (x : DUnit) : List AV := [I x.Side, I x.Kind, I x.At, I x.Steps]
def cLUnit (l : List DUnit) : List AV := [slc cUnit l]
structure DState where
  Turn : Int
  Weather : Int
  Units : List DUnit
def cState (x : DState) : List AV := [I x.Turn, I x.Weather, slc cUnit x.Units]
structure DGoal where
  At : Int
  Points : Int
def cGoal (x : DGoal) : List AV := [I x.At, I x.Points]
def cLGoal (l : List DGoal) : List AV := [slc cGoal l]
structure DConditions where
  Goals : List DGoal
  Step : Int
  Margin : Int
def cConditions (x : DConditions) : List AV := [slc cGoal x.Goals, I x.Step, I x.Margin]
structure Dl1Cur where
  code_ : KSl
  at_ : Int
  seed_ : Int
def cl1Cur (x : Dl1Cur) : List AV := [Kn x.code_, I x.at_, K .u64 x.seed_]
structure A2I where
  a0 : Int
  a1 : Int
def cA2I (x : A2I) : List AV := [I x.a0, I x.a1]
def cLA2I (l : List A2I) : List AV := [slc cA2I l]
def cLLI (l : List (List Int)) : List AV := [slc cLI l]
def cLS (l : List ByteArray) : List AV := [slc cS l]
structure DHex where
  Q : Int
  R : Int
def cHex (x : DHex) : List AV := [I x.Q, I x.R]
structure A6Hex where
  a0 : DHex
  a1 : DHex
  a2 : DHex
  a3 : DHex
  a4 : DHex
  a5 : DHex
def cA6Hex (x : A6Hex) : List AV := [I x.a0.Q, I x.a0.R, I x.a1.Q, I x.a1.R, I x.a2.Q, I x.a2.R, I x.a3.Q, I x.a3.R, I x.a4.Q, I x.a4.R, I x.a5.Q, I x.a5.R]
def tblAt : List (TypeId × TE) → TypeId → Option TE
  | [], _ => none
  | (a, e) :: r, t => bif Nat.beq a t then some e else tblAt r t
def tLY : TE := ⟨List UInt8, false, cLY⟩
def tY : TE := ⟨UInt8, false, cY⟩
def tB : TE := ⟨Bool, false, cB⟩
def tI : TE := ⟨Int, false, cI⟩
def tBoard : TE := ⟨DBoard, true, cBoard⟩
def tRules : TE := ⟨DRules, true, cRules⟩
def tLTerrain : TE := ⟨List DTerrain, false, cLTerrain⟩
def tTerrain : TE := ⟨DTerrain, true, cTerrain⟩
def tS : TE := ⟨ByteArray, false, cS⟩
def tLI : TE := ⟨List Int, false, cLI⟩
def tLKind : TE := ⟨List DKind, false, cLKind⟩
def tKind : TE := ⟨DKind, true, cKind⟩
def tMap : TE := ⟨DMap, true, cMap⟩
def tState : TE := ⟨DState, true, cState⟩
def tLUnit : TE := ⟨List DUnit, false, cLUnit⟩
def tUnit : TE := ⟨DUnit, true, cUnit⟩
def tConditions : TE := ⟨DConditions, true, cConditions⟩
def tLGoal : TE := ⟨List DGoal, false, cLGoal⟩
def tGoal : TE := ⟨DGoal, true, cGoal⟩
def tl1Cur : TE := ⟨Dl1Cur, true, cl1Cur⟩
def tU64 : TE := ⟨Int, false, cU64⟩
def tA2I : TE := ⟨A2I, true, cA2I⟩
def tLA2I : TE := ⟨List A2I, false, cLA2I⟩
def tLLI : TE := ⟨List (List Int), false, cLLI⟩
def tLS : TE := ⟨List ByteArray, false, cLS⟩
def tHex : TE := ⟨DHex, true, cHex⟩
def tA6Hex : TE := ⟨A6Hex, true, cA6Hex⟩
def tbl : Tbl := tblAt [(22, tLY), (5, tY), (4, tB), (3, tI), (31, tBoard), (30, tBoard), (26, tRules), (25, tRules), (23, tLTerrain), (101, tTerrain), (100, tTerrain), (9, tS), (27, tLI), (24, tLKind), (85, tKind), (84, tKind), (29, tMap), (28, tMap), (34, tState), (33, tState), (32, tLUnit), (77, tUnit), (76, tUnit), (37, tConditions), (36, tConditions), (35, tLGoal), (52, tGoal), (51, tGoal), (63, tl1Cur), (62, tl1Cur), (61, tU64), (69, tA2I), (99, tLA2I), (106, tLLI), (126, tLS), (129, tHex), (128, tHex), (132, tA6Hex)]
def rowAt : List ((Nat × Nat) × Nat) → Nat → Nat → Option TypeId
  | [], _, _ => none
  | (a, h) :: r, f, i => bif Nat.beq a.1 f && Nat.beq a.2 i then some h else rowAt r f i
def rowTab : List ((Nat × Nat) × Nat) := [((3, 0), 5), ((3, 1), 5), ((3, 31), 3), ((3, 40), 3), ((3, 42), 3), ((3, 44), 5), ((3, 46), 5), ((3, 51), 5), ((3, 71), 5), ((3, 154), 3), ((3, 210), 52), ((3, 217), 3), ((3, 243), 3), ((3, 249), 3), ((3, 282), 3), ((3, 286), 3), ((3, 200005), 101), ((3, 300005), 85), ((3, 400005), 3), ((3, 500005), 3), ((3, 600005), 3), ((3, 200006), 77), ((3, 200007), 52), ((3, 200012), 101), ((3, 300012), 85), ((3, 400012), 3), ((3, 500012), 3), ((3, 600012), 3), ((3, 200013), 77), ((3, 200014), 52), ((4, 0), 5), ((4, 5), 5), ((4, 200002), 101), ((4, 300002), 85), ((4, 400002), 3), ((4, 500002), 3), ((4, 600002), 3), ((4, 200003), 77), ((4, 200004), 52), ((5, 16), 3), ((5, 20), 3), ((5, 200003), 101), ((5, 300003), 85), ((5, 400003), 3), ((5, 500003), 3), ((5, 600003), 3), ((5, 200004), 77), ((5, 200005), 52), ((6, 200003), 101), ((6, 300003), 85), ((6, 400003), 3), ((6, 500003), 3), ((6, 600003), 3), ((6, 200004), 77), ((6, 200005), 52), ((7, 0), 5), ((7, 10), 5), ((7, 200002), 101), ((7, 300002), 85), ((7, 400002), 3), ((7, 500002), 3), ((7, 600002), 3), ((7, 200003), 77), ((7, 200004), 52), ((7, 200012), 5), ((7, 200007), 101), ((7, 300007), 85), ((7, 400007), 3), ((7, 500007), 3), ((7, 600007), 3), ((7, 200008), 77), ((7, 200009), 52), ((8, 200004), 101), ((8, 300004), 85), ((8, 400004), 3), ((8, 500004), 3), ((8, 600004), 3), ((8, 200005), 77), ((8, 200006), 52), ((9, 200004), 101), ((9, 300004), 85), ((9, 400004), 3), ((9, 500004), 3), ((9, 600004), 3), ((9, 200005), 77), ((9, 200006), 52), ((10, 200003), 101), ((10, 300003), 85), ((10, 400003), 3), ((10, 500003), 3), ((10, 600003), 3), ((10, 200004), 77), ((10, 200005), 52), ((11, 200003), 101), ((11, 300003), 85), ((11, 400003), 3), ((11, 500003), 3), ((11, 600003), 3), ((11, 200004), 77), ((11, 200005), 52), ((12, 200002), 101), ((12, 300002), 85), ((12, 400002), 3), ((12, 500002), 3), ((12, 600002), 3), ((12, 200003), 77), ((13, 19), 52), ((13, 200002), 101), ((13, 300002), 85), ((13, 400002), 3), ((13, 500002), 3), ((13, 600002), 3), ((13, 200003), 52), ((14, 6), 3), ((14, 8), 3), ((14, 16), 3), ((14, 18), 52), ((14, 31), 3), ((14, 33), 3), ((14, 34), 3), ((14, 36), 3), ((14, 200003), 101), ((14, 300003), 85), ((14, 400003), 3), ((14, 500003), 3), ((14, 600003), 3), ((14, 200004), 77), ((14, 200005), 52), ((15, 0), 3), ((15, 7), 3), ((16, 6), 3), ((16, 19), 3), ((16, 200003), 101), ((16, 300003), 85), ((16, 400003), 3), ((16, 500003), 3), ((16, 600003), 3), ((16, 200004), 77), ((17, 0), 5), ((17, 6), 5), ((17, 200002), 101), ((17, 300002), 85), ((17, 400002), 3), ((17, 500002), 3), ((17, 600002), 3), ((17, 200003), 77), ((17, 200004), 52), ((17, 200008), 5), ((18, 200003), 101), ((18, 300003), 85), ((18, 400003), 3), ((18, 500003), 3), ((18, 600003), 3), ((18, 200004), 77), ((18, 200005), 52), ((19, 4), 3), ((19, 5), 3), ((19, 8), 3), ((19, 10), 77), ((19, 26), 3), ((19, 28), 3), ((19, 29), 3), ((19, 31), 3), ((19, 200002), 77), ((20, 200004), 101), ((20, 300004), 85), ((20, 400004), 3), ((20, 500004), 3), ((20, 600004), 3), ((20, 200005), 77), ((20, 200006), 52), ((21, 200003), 101), ((21, 300003), 85), ((21, 400003), 3), ((21, 500003), 3), ((21, 600003), 3), ((21, 200004), 77), ((21, 200005), 52), ((22, 12), 3), ((22, 16), 3), ((22, 200003), 101), ((22, 300003), 85), ((22, 400003), 3), ((22, 500003), 3), ((22, 600003), 3), ((22, 200004), 77), ((22, 200005), 52), ((23, 28), 77), ((23, 34), 77), ((23, 46), 77), ((23, 200002), 101), ((23, 300002), 85), ((23, 400002), 3), ((23, 500002), 3), ((23, 600002), 3), ((23, 200003), 77), ((23, 200004), 52), ((23, 100011), 77), ((23, 200005), 101), ((23, 300005), 85), ((23, 400005), 3), ((23, 500005), 3), ((23, 600005), 3), ((23, 200006), 77), ((27, 200004), 101), ((27, 300004), 85), ((27, 400004), 3), ((27, 500004), 3), ((27, 600004), 3), ((27, 200005), 77), ((27, 200006), 52), ((29, 13), 52), ((29, 200003), 101), ((29, 300003), 85), ((29, 400003), 3), ((29, 500003), 3), ((29, 600003), 3), ((29, 200004), 77), ((29, 200005), 52), ((30, 19), 77), ((30, 200003), 101), ((30, 300003), 85), ((30, 400003), 3), ((30, 500003), 3), ((30, 600003), 3), ((30, 200004), 77), ((30, 200005), 52), ((31, 200002), 101), ((31, 300002), 85), ((31, 400002), 3), ((31, 500002), 3), ((31, 600002), 3), ((31, 200003), 77), ((32, 10), 77), ((32, 22), 85), ((32, 200002), 101), ((32, 300002), 85), ((32, 400002), 3), ((32, 500002), 3), ((32, 600002), 3), ((32, 200003), 77), ((33, 15), 3), ((33, 200001), 101), ((33, 300001), 85), ((33, 400001), 3), ((33, 500001), 3), ((33, 600001), 3), ((34, 8), 52), ((34, 24), 52), ((34, 48), 52), ((34, 200002), 101), ((34, 300002), 85), ((34, 400002), 3), ((34, 500002), 3), ((34, 600002), 3), ((34, 200003), 52), ((35, 200003), 101), ((35, 300003), 85), ((35, 400003), 3), ((35, 500003), 3), ((35, 600003), 3), ((35, 200004), 77), ((36, 29), 77), ((36, 34), 77), ((36, 46), 77), ((36, 62), 3), ((36, 71), 3), ((36, 200002), 101), ((36, 300002), 85), ((36, 400002), 3), ((36, 500002), 3), ((36, 600002), 3), ((36, 200003), 77), ((37, 12), 52), ((37, 29), 52), ((37, 55), 52), ((37, 200002), 101), ((37, 300002), 85), ((37, 400002), 3), ((37, 500002), 3), ((37, 600002), 3), ((37, 200003), 52), ((38, 4), 3), ((38, 5), 3), ((38, 9), 77), ((38, 25), 3), ((38, 27), 3), ((38, 28), 3), ((38, 30), 3), ((38, 200002), 77), ((39, 200002), 101), ((39, 300002), 85), ((39, 400002), 3), ((39, 500002), 3), ((39, 600002), 3), ((39, 200003), 77), ((39, 200004), 101), ((39, 300004), 85), ((39, 400004), 3), ((39, 500004), 3), ((39, 600004), 3), ((39, 100010), 77), ((41, 6), 3), ((41, 25), 3), ((41, 30), 3), ((41, 31), 3), ((41, 38), 52), ((41, 44), 52), ((41, 45), 52), ((41, 53), 52), ((41, 55), 3), ((41, 58), 3), ((41, 61), 52), ((41, 62), 52), ((41, 67), 3), ((41, 73), 3), ((41, 200003), 101), ((41, 300003), 85), ((41, 400003), 3), ((41, 500003), 3), ((41, 600003), 3), ((41, 200004), 52), ((41, 200005), 52), ((41, 100030), 3), ((42, 11), 5), ((42, 17), 5), ((42, 51), 5), ((44, 13), 77), ((44, 26), 85), ((44, 36), 85), ((44, 200003), 101), ((44, 300003), 85), ((44, 400003), 3), ((44, 500003), 3), ((44, 600003), 3), ((44, 200004), 77), ((45, 13), 52), ((45, 200004), 101), ((45, 300004), 85), ((45, 400004), 3), ((45, 500004), 3), ((45, 600004), 3), ((45, 200005), 77), ((45, 200006), 52), ((46, 5), 69), ((46, 23), 77), ((46, 29), 69), ((46, 31), 77), ((46, 44), 69), ((46, 55), 69), ((46, 66), 69), ((46, 200002), 101), ((46, 300002), 85), ((46, 400002), 3), ((46, 500002), 3), ((46, 600002), 3), ((46, 200003), 77), ((47, 8), 101), ((47, 14), 85), ((47, 20), 101), ((47, 29), 85), ((47, 35), 101), ((47, 44), 85), ((47, 56), 85), ((47, 200001), 101), ((47, 300001), 85), ((47, 200004), 3), ((48, 6), 3), ((48, 21), 3), ((48, 31), 3), ((48, 42), 3), ((48, 44), 3), ((48, 45), 27), ((48, 50), 3), ((48, 51), 3), ((48, 54), 3), ((48, 200001), 3), ((48, 300001), 3), ((48, 400001), 3), ((49, 0), 3), ((49, 5), 3), ((50, 7), 101), ((52, 5), 3), ((52, 200001), 101), ((52, 300001), 85), ((52, 400001), 3), ((52, 500001), 3), ((52, 600001), 3), ((53, 200003), 101), ((53, 300003), 85), ((53, 400003), 3), ((53, 500003), 3), ((53, 600003), 3), ((53, 200004), 77), ((54, 14), 3), ((54, 17), 101), ((54, 200001), 101), ((54, 300001), 85), ((54, 400001), 3), ((54, 500001), 3), ((54, 600001), 3), ((55, 14), 85), ((55, 25), 85), ((55, 200002), 101), ((55, 300002), 85), ((55, 400002), 3), ((55, 500002), 3), ((55, 600002), 3), ((56, 6), 3), ((56, 7), 3), ((56, 11), 77), ((56, 28), 3), ((56, 30), 3), ((56, 31), 3), ((56, 33), 3), ((56, 200003), 77), ((57, 200001), 3), ((57, 300001), 3), ((57, 400001), 3), ((58, 200002), 101), ((58, 300002), 85), ((58, 400002), 3), ((58, 500002), 3), ((58, 600002), 3), ((58, 200003), 101), ((58, 300003), 85), ((58, 400003), 3), ((58, 500003), 3), ((58, 600003), 3), ((59, 11), 77), ((59, 18), 77), ((59, 33), 3), ((59, 39), 3), ((59, 45), 77), ((59, 51), 3), ((59, 58), 77), ((59, 61), 3), ((59, 68), 77), ((59, 71), 3), ((59, 78), 77), ((59, 85), 77), ((59, 87), 77), ((59, 88), 77), ((59, 200003), 101), ((59, 300003), 85), ((59, 400003), 3), ((59, 500003), 3), ((59, 600003), 3), ((59, 200004), 77), ((59, 100015), 77), ((59, 200005), 77), ((60, 0), 3), ((60, 4), 3), ((60, 6), 3), ((60, 8), 3), ((60, 12), 3), ((60, 22), 3), ((60, 26), 3), ((60, 33), 3), ((60, 34), 3), ((60, 35), 3), ((60, 37), 3), ((60, 38), 3), ((60, 39), 3), ((60, 41), 3), ((60, 42), 3), ((60, 43), 3), ((60, 44), 3), ((60, 46), 3), ((60, 47), 3), ((61, 10), 3), ((61, 200003), 3), ((61, 300003), 3), ((61, 400003), 3), ((62, 1), 3), ((62, 5), 3), ((62, 7), 3), ((63, 200003), 101), ((63, 300003), 85), ((63, 400003), 3), ((63, 500003), 3), ((63, 600003), 3), ((63, 200004), 77), ((64, 14), 85), ((64, 24), 85), ((64, 200002), 101), ((64, 300002), 85), ((64, 400002), 3), ((64, 500002), 3), ((64, 600002), 3), ((65, 11), 3), ((65, 29), 3), ((65, 200002), 3), ((66, 0), 101), ((66, 5), 101), ((68, 0), 85), ((68, 5), 85), ((69, 0), 3), ((69, 5), 3), ((69, 10), 3), ((69, 15), 3), ((70, 200002), 3), ((70, 300002), 3), ((70, 400002), 3), ((71, 0), 3), ((71, 6), 3), ((71, 12), 3), ((72, 8), 77), ((72, 200002), 77), ((73, 12), 77), ((73, 200004), 101), ((73, 300004), 85), ((73, 400004), 3), ((73, 500004), 3), ((73, 600004), 3), ((73, 200005), 77), ((74, 8), 101), ((74, 14), 85), ((74, 20), 101), ((74, 33), 101), ((74, 42), 3), ((74, 45), 85), ((74, 51), 3), ((74, 69), 85), ((74, 82), 85), ((74, 200001), 101), ((74, 300001), 85), ((74, 200004), 3), ((75, 13), 3), ((75, 21), 3), ((75, 27), 3), ((75, 33), 3), ((75, 200001), 3), ((75, 300001), 3), ((75, 400001), 3), ((76, 0), 3), ((76, 9), 3), ((77, 10), 3), ((77, 200003), 101), ((77, 300003), 85), ((77, 400003), 3), ((77, 500003), 3), ((77, 600003), 3), ((78, 9), 101), ((78, 200002), 101), ((78, 300002), 85), ((78, 400002), 3), ((78, 500002), 3), ((78, 600002), 3), ((78, 100005), 101), ((78, 200005), 85), ((78, 200003), 101), ((78, 300003), 85), ((78, 100011), 3), ((78, 200011), 3), ((78, 300011), 3), ((79, 11), 101), ((79, 14), 3), ((79, 16), 3), ((79, 22), 101), ((79, 24), 9), ((79, 31), 85), ((79, 33), 3), ((79, 40), 85), ((79, 42), 85), ((79, 45), 85), ((79, 46), 85), ((79, 51), 3), ((79, 57), 3), ((79, 63), 101), ((79, 65), 3), ((79, 200002), 101), ((79, 300002), 85), ((79, 100005), 101), ((79, 200005), 85), ((79, 200003), 101), ((79, 300003), 85), ((80, 14), 3), ((80, 20), 3), ((80, 22), 3), ((80, 28), 3), ((80, 37), 3), ((80, 39), 3), ((80, 40), 3), ((80, 44), 3), ((80, 46), 3), ((80, 47), 3), ((80, 200002), 3), ((80, 300002), 3), ((80, 400002), 3), ((80, 100005), 3), ((80, 200005), 3), ((80, 300005), 3), ((80, 200003), 3), ((80, 300003), 3), ((80, 400003), 3), ((81, 30), 85), ((81, 37), 85), ((81, 55), 77), ((81, 57), 77), ((81, 58), 77), ((81, 65), 77), ((81, 67), 77), ((81, 200003), 101), ((81, 300003), 85), ((81, 400003), 3), ((81, 500003), 3), ((81, 600003), 3), ((81, 200004), 77), ((81, 200005), 77), ((82, 200003), 101), ((82, 300003), 85), ((82, 400003), 3), ((82, 500003), 3), ((82, 600003), 3), ((82, 200004), 77), ((83, 10), 3), ((83, 200003), 101), ((83, 300003), 85), ((83, 400003), 3), ((83, 500003), 3), ((83, 600003), 3), ((86, 0), 101), ((86, 6), 101), ((86, 12), 101), ((87, 200002), 3), ((88, 0), 85), ((88, 6), 85), ((88, 12), 85), ((90, 200003), 3), ((90, 300003), 3), ((90, 400003), 3), ((91, 14), 85), ((91, 200003), 101), ((91, 300003), 85), ((91, 400003), 3), ((91, 500003), 3), ((91, 600003), 3), ((93, 0), 101), ((93, 7), 101), ((93, 200006), 3), ((94, 0), 85), ((94, 7), 85), ((95, 1), 3), ((95, 7), 3), ((95, 30), 3), ((95, 200002), 3), ((95, 300002), 3), ((95, 400002), 3), ((96, 7), 101), ((96, 10), 3), ((96, 200002), 101), ((96, 300002), 85), ((96, 400002), 3), ((96, 500002), 3), ((96, 600002), 3), ((96, 200004), 3), ((97, 3), 85), ((97, 5), 9), ((97, 43), 85), ((97, 44), 85), ((97, 48), 85), ((97, 61), 9), ((97, 70), 9), ((97, 73), 9), ((97, 93), 85), ((97, 102), 3), ((97, 104), 3), ((97, 105), 3), ((97, 109), 101), ((97, 111), 101), ((97, 112), 101), ((97, 200002), 101), ((97, 300002), 85), ((97, 200004), 101), ((97, 300004), 85), ((97, 200007), 3), ((98, 27), 3), ((98, 29), 3), ((98, 30), 3), ((98, 34), 3), ((98, 38), 3), ((98, 200004), 3), ((98, 300004), 3), ((98, 400004), 3), ((98, 200005), 3), ((98, 300005), 3), ((98, 400005), 3), ((98, 100034), 3), ((98, 100038), 3), ((99, 1), 9), ((99, 5), 9), ((99, 7), 9), ((100, 8), 77), ((100, 200002), 77), ((101, 13), 3), ((101, 200004), 101), ((101, 300004), 85), ((101, 400004), 3), ((101, 500004), 3), ((101, 600004), 3), ((101, 200005), 77), ((102, 7), 101), ((102, 10), 3), ((102, 200002), 101), ((102, 300002), 85), ((102, 400002), 3), ((102, 500002), 3), ((102, 600002), 3), ((102, 200004), 3), ((103, 200002), 3), ((103, 300002), 3), ((103, 400002), 3), ((105, 200002), 3), ((105, 300002), 3), ((105, 400002), 3), ((106, 6), 3), ((106, 12), 3), ((106, 200002), 3), ((106, 300002), 3), ((106, 400002), 3), ((107, 200003), 3), ((107, 300003), 3), ((107, 400003), 3), ((108, 200003), 3), ((108, 300003), 3), ((108, 400003), 3), ((109, 0), 3), ((109, 9), 3), ((109, 25), 3), ((110, 4), 3), ((110, 5), 3), ((110, 26), 3), ((110, 31), 3), ((110, 32), 3), ((110, 200003), 3), ((110, 300003), 3), ((110, 400003), 3), ((110, 100031), 3), ((111, 8), 3), ((111, 9), 3), ((111, 13), 77), ((111, 31), 3), ((111, 33), 3), ((111, 34), 3), ((111, 36), 3), ((111, 200004), 101), ((111, 300004), 85), ((111, 400004), 3), ((111, 500004), 3), ((111, 600004), 3), ((111, 200005), 77), ((112, 0), 3), ((112, 5), 3), ((113, 200002), 3), ((113, 300002), 3), ((113, 400002), 3), ((114, 7), 3), ((114, 14), 3), ((115, 200002), 3), ((115, 300002), 3), ((115, 400002), 3), ((116, 200003), 3), ((116, 300003), 3), ((116, 400003), 3), ((117, 12), 77), ((117, 22), 85), ((117, 200004), 101), ((117, 300004), 85), ((117, 400004), 3), ((117, 500004), 3), ((117, 600004), 3), ((117, 200005), 77), ((118, 0), 3), ((118, 6), 3), ((118, 12), 3), ((119, 8), 3), ((119, 200003), 3), ((119, 300003), 3), ((119, 400003), 3), ((120, 8), 3), ((120, 200003), 3), ((120, 300003), 3), ((120, 400003), 3), ((121, 0), 3), ((121, 7), 3)]
def capAt : List (Nat × List (Option TypeId)) → Nat → List (Option TypeId)
  | [], _ => []
  | (a, h) :: r, f => bif Nat.beq a f then h else capAt r f
def ke39 : KE := ⟨DBoard × DState, fun a => .tup [.agg [slc cTerrain a.1.Rules.Terrains, slc cKind a.1.Rules.Kinds, I a.1.Rules.Stack, I a.1.Rules.River, I a.1.Rules.Road, I a.1.Rules.Supply, I a.1.Rules.Turns, I a.1.Map.Width, I a.1.Map.Height, slc cI a.1.Map.Terrain, slc cI a.1.Map.Rivers, slc cI a.1.Map.Roads], .agg [I a.2.Turn, I a.2.Weather, .own (.r 0 0) none 0 a.2.Units.length a.2.Units.length]], fun a => [(.r 0 0, some (rowB true false 4 cUnit a.2.Units))]⟩
def ke59 : KE := ⟨DState, fun a => .agg [I a.Turn, I a.Weather, .own (.r 0 0) none 0 a.Units.length a.Units.length], fun a => [(.r 0 0, some (rowB true false 4 cUnit a.Units))]⟩
def ke60 : KE := ⟨List Int, fun a => .own (.r 0 0) none 0 a.length a.length, fun a => [(.r 0 0, some (rowB true false 1 cI a))]⟩
def kl60 : KE := ⟨Nat, fun a => .own (.l 0) none 0 a a, fun _ => []⟩
def ke81 : KE := ⟨DState, fun a => .agg [I a.Turn, I a.Weather, .own (.r 0 0) none 0 a.Units.length a.Units.length], fun a => [(.r 0 0, some (rowB true false 4 cUnit a.Units))]⟩
def cTerrainN (x : DTerrain) : List AV := [S x.Name, .nst 1 x.Cost.length (x.Cost.flatMap cI), I x.Shift, I x.Height, B x.Blocks]
def ke97 : KE := ⟨(DRules) × List DKind, fun a => .agg [.own (.r 0 0) none 0 a.1.Terrains.length a.1.Terrains.length, .own (.r 0 1) none 0 a.1.Kinds.length (a.1.Kinds.length + a.2.length), I a.1.Stack, I a.1.River, I a.1.Road, I a.1.Supply, I a.1.Turns], fun a => [(.r 0 0, some (rowB true true 5 cTerrainN a.1.Terrains)), (.r 0 1, some (rowB true false 6 cKind (a.1.Kinds ++ a.2)))]⟩
def ke98 : KE := ⟨DMap, fun a => .agg [I a.Width, I a.Height, .own (.r 0 0) none 0 a.Terrain.length a.Terrain.length, .own (.r 0 1) none 0 a.Rivers.length a.Rivers.length, .own (.r 0 2) none 0 a.Roads.length a.Roads.length], fun a => [(.r 0 0, some (rowB true false 1 cI a.Terrain)), (.r 0 1, some (rowB true false 1 cI a.Rivers)), (.r 0 2, some (rowB true false 1 cI a.Roads))]⟩
def ke110 : KE := ⟨List Int, fun a => .own (.r 0 0) none 0 a.length a.length, fun a => [(.r 0 0, some (rowB true false 1 cI a))]⟩
def tnTerrain : TE := ⟨DTerrain, true, cTerrainN⟩
def tblN : Tbl := tblAt [(101, tnTerrain), (100, tnTerrain)]
def T : Hn := { t := tbl, row := fun f id => match id with | .v t => rowAt rowTab f t | .h t k => (rowAt rowTab f (t + 100000 * (k + 1))).or (rowAt rowTab f t) | .r t k => (rowAt rowTab f (t + 100000 * (k + 1))).or (rowAt rowTab f t) | .l i => rowAt rowTab f i, n := tblN, cap := capAt [(50, [some 31]), (87, [some 9]), (89, [some 9])], kept := fun f _ => bif Nat.beq f 39 then [ke39] else bif Nat.beq f 59 then [ke59] else bif Nat.beq f 60 then [kl60, ke60] else bif Nat.beq f 81 then [ke81] else bif Nat.beq f 97 then [ke97] else bif Nat.beq f 98 then [ke98] else bif Nat.beq f 110 then [ke110] else [] }
def hintAt : List ((Nat × Nat) × List (Nat × Option Nat)) → Nat → Nat → List (Nat × Option Nat)
  | [], _, _ => []
  | (a, h) :: r, f, i => bif Nat.beq a.1 f && Nat.beq a.2 i then h else hintAt r f i
def hints : List ((Nat × Nat) × List (Nat × Option Nat)) := [((3, 22), [(5, none), (6, none), (7, none), (8, none), (20, none), (21, none), (29, none), (31, none), (33, none), (210, none), (211, none), (212, none)]), ((13, 5), [(6, none), (19, none), (20, none), (21, none)]), ((14, 5), [(3, none), (4, none), (8, some 1), (18, none), (19, none), (20, none)]), ((15, 2), [(1, none), (7, none), (8, none), (9, none)]), ((19, 3), [(1, none), (5, some 1), (10, none), (11, none), (12, none)]), ((23, 8), [(0, none), (2, none), (3, none), (4, none), (5, none), (6, none), (7, none), (29, none), (30, none)]), ((29, 3), [(3, none), (4, none), (6, none), (7, none), (13, none), (14, none), (15, none)]), ((30, 3), [(5, none), (6, none), (7, none), (8, none), (19, none), (20, none), (21, none)]), ((32, 3), [(2, none), (4, none), (5, none), (10, none), (11, none), (12, none)]), ((34, 4), [(2, none), (3, none), (24, none), (25, none), (26, none)]), ((36, 4), [(2, none), (3, none), (34, none), (35, none), (36, none)]), ((36, 10), [(2, none), (3, none), (46, none), (47, none), (48, none)]), ((37, 4), [(2, none), (3, none), (29, none), (30, none), (31, none)]), ((38, 3), [(1, none), (5, some 1), (9, none), (10, none), (11, none)]), ((41, 6), [(0, none), (3, none), (4, none), (5, none), (6, some 1), (7, none)]), ((41, 10), [(0, none), (4, none), (5, none), (31, none), (32, none), (33, none), (1005000, some 2)]), ((44, 3), [(2, none), (3, none), (8, none), (9, none), (13, none), (14, none), (15, none)]), ((45, 3), [(3, none), (4, none), (5, none), (9, none), (13, none), (14, none), (15, none)]), ((46, 5), [(2, none), (5, none), (31, none), (32, none), (33, none)]), ((47, 4), [(1, none), (20, none), (21, none), (22, none)]), ((47, 10), [(1, none), (44, none), (45, none), (46, none)]), ((48, 4), [(1, none), (31, none), (32, none), (33, none)]), ((48, 10), [(1, none), (45, none), (46, none), (47, none)]), ((48, 15), [(1, none), (45, none), (46, none), (47, none), (54, none), (55, none), (56, none)]), ((56, 3), [(1, none), (2, none), (7, some 1), (11, none), (12, none), (13, none)]), ((59, 17), [(0, none), (4, none), (5, none), (1005002, some 4)]), ((60, 2), [(0, none), (1, none), (5, none)]), ((69, 2), [(0, none), (3, none)]), ((71, 2), [(0, none), (1, none), (7, none), (8, none)]), ((72, 2), [(1, none), (8, none), (9, none), (10, none)]), ((73, 2), [(2, none), (3, none), (4, none), (12, none), (13, none), (14, none)]), ((74, 4), [(1, none), (20, none), (21, none), (22, none)]), ((74, 10), [(1, none), (69, none), (70, none), (71, none)]), ((76, 2), [(1, none), (2, none), (9, none), (10, none), (11, none)]), ((81, 3), [(0, none), (3, none), (4, none), (5, none), (6, none), (1005002, some 4)]), ((84, 2), [(0, none), (3, none)]), ((86, 2), [(0, none), (1, none), (7, none), (8, none)]), ((88, 2), [(0, none), (1, none), (7, none), (8, none)]), ((91, 4), [(2, none), (3, none), (4, none), (30, none)]), ((92, 2), [(0, none), (3, none)]), ((93, 2), [(1, none), (7, none), (8, none), (9, none)]), ((94, 2), [(1, none), (7, none), (8, none), (9, none)]), ((95, 2), [(1, none), (2, none), (7, none), (8, none), (9, none)]), ((97, 5), [(0, none), (2, none), (4, none), (5, none), (6, none), (1004000, some 1005)]), ((97, 10), [(0, none), (2, none), (4, none), (5, none), (6, none), (7, none), (94, none), (95, none), (1007001, some 1)]), ((98, 3), [(0, none), (1, none), (4, none), (5, none), (6, none), (1005002, some 1)]), ((100, 2), [(1, none), (8, none), (9, none), (10, none)]), ((109, 2), [(0, none), (1, none), (2, none), (9, none), (10, none), (11, none)]), ((110, 3), [(0, none), (3, none), (5, some 1), (6, none)]), ((111, 3), [(2, none), (3, none), (4, none), (5, none), (9, some 1), (13, none), (14, none), (15, none)]), ((117, 5), [(3, none), (4, none), (9, none), (10, none)]), ((118, 2), [(0, none), (1, none), (7, none), (8, none)]), ((121, 2), [(1, none), (7, none), (8, none), (9, none)]), ((39, 1000000), [(0, some 5), (1, some 6), (9, some 1), (10, some 1), (11, some 1), (102, some 4)]), ((59, 1000000), [(2, some 4)]), ((59, 1000001), [(0, none)]), ((60, 1000000), [(0, some 1)]), ((60, 1000001), [(0, none)]), ((81, 1000000), [(2, some 4)]), ((81, 1000001), [(0, none)]), ((97, 1000000), [(0, some 1005), (1, some 6)]), ((98, 1000000), [(2, some 1), (3, some 1), (4, some 1)]), ((98, 1000001), [(0, none)]), ((110, 1000000), [(0, some 1)]), ((110, 1000001), [(0, none)])]
variable [Inhabited Known]
noncomputable def G : Cfg := { kn := (default : Known).kn, P := Tryz.prog, glob := fun g => bif Nat.beq g 0 then some [I 1, I 0, I 1, I (-1), I 0, I (-1), I (-1), I 0, I (-1), I 1, I 0, I 1] else none, lend := fun f i => (Nat.beq f 60 && Nat.beq i 0), keep := fun f => Nat.beq f 60 || Nat.beq f 110 || Nat.beq f 98 || Nat.beq f 97 || Nat.beq f 81 || Nat.beq f 59 || Nat.beq f 39, inl := fun f => Nat.beq f 97 || Nat.beq f 79, hint := hintAt hints }
end Go.Ev
/-
  LEMMAS on the program's data: cells are told apart, of one number; slice types; written by a program (types.py).
-/
namespace Go.Ev
open Go Go.Proofs
set_option linter.unusedSimpArgs false
theorem byte_inj (a b : UInt8) : ((a.toNat : Int) = (b.toNat : Int)) ↔ a = b := ⟨fun h => UInt8.toNat_inj.1 (by omega), fun h => h ▸ rfl⟩
theorem cY_eq (a b : UInt8) : cY a = cY b ↔ a = b := by simp [cY, byte_inj]
attribute [simp] cY_eq
theorem ok_cY : COk cY 1 := ⟨fun _ => rfl, fun a b h => (cY_eq a b).1 h⟩
@[simp] theorem rw_cY {fr nest : Bool} {l m : List UInt8} : rowB fr nest 1 cY l = rowB fr nest 1 cY m ↔ l = m := rowB_eq ok_cY (by decide)
@[simp] theorem slc_cY (l m : List UInt8) : slc cY l = slc cY m ↔ l = m := slc_eq ok_cY
theorem cLY_eq (a b : List UInt8) : cLY a = cLY b ↔ a = b := by simp [cLY, byte_inj]
attribute [simp] cLY_eq
theorem ok_cLY : COk cLY 1 := ⟨fun _ => rfl, fun a b h => (cLY_eq a b).1 h⟩
@[simp] theorem rw_cLY {fr nest : Bool} {l m : List (List UInt8)} : rowB fr nest 1 cLY l = rowB fr nest 1 cLY m ↔ l = m := rowB_eq ok_cLY (by decide)
@[simp] theorem slc_cLY (l m : List (List UInt8)) : slc cLY l = slc cLY m ↔ l = m := slc_eq ok_cLY
theorem cB_eq (a b : Bool) : cB a = cB b ↔ a = b := by simp [cB, byte_inj]
attribute [simp] cB_eq
theorem ok_cB : COk cB 1 := ⟨fun _ => rfl, fun a b h => (cB_eq a b).1 h⟩
@[simp] theorem rw_cB {fr nest : Bool} {l m : List Bool} : rowB fr nest 1 cB l = rowB fr nest 1 cB m ↔ l = m := rowB_eq ok_cB (by decide)
@[simp] theorem slc_cB (l m : List Bool) : slc cB l = slc cB m ↔ l = m := slc_eq ok_cB
theorem cI_eq (a b : Int) : cI a = cI b ↔ a = b := by simp [cI, byte_inj]
attribute [simp] cI_eq
theorem ok_cI : COk cI 1 := ⟨fun _ => rfl, fun a b h => (cI_eq a b).1 h⟩
@[simp] theorem rw_cI {fr nest : Bool} {l m : List Int} : rowB fr nest 1 cI l = rowB fr nest 1 cI m ↔ l = m := rowB_eq ok_cI (by decide)
@[simp] theorem slc_cI (l m : List Int) : slc cI l = slc cI m ↔ l = m := slc_eq ok_cI
theorem cS_eq (a b : ByteArray) : cS a = cS b ↔ a = b := by simp [cS, byte_inj]
attribute [simp] cS_eq
theorem ok_cS : COk cS 1 := ⟨fun _ => rfl, fun a b h => (cS_eq a b).1 h⟩
@[simp] theorem rw_cS {fr nest : Bool} {l m : List ByteArray} : rowB fr nest 1 cS l = rowB fr nest 1 cS m ↔ l = m := rowB_eq ok_cS (by decide)
@[simp] theorem slc_cS (l m : List ByteArray) : slc cS l = slc cS m ↔ l = m := slc_eq ok_cS
theorem cLI_eq (a b : List Int) : cLI a = cLI b ↔ a = b := by simp [cLI, byte_inj]
attribute [simp] cLI_eq
theorem ok_cLI : COk cLI 1 := ⟨fun _ => rfl, fun a b h => (cLI_eq a b).1 h⟩
@[simp] theorem rw_cLI {fr nest : Bool} {l m : List (List Int)} : rowB fr nest 1 cLI l = rowB fr nest 1 cLI m ↔ l = m := rowB_eq ok_cLI (by decide)
@[simp] theorem slc_cLI (l m : List (List Int)) : slc cLI l = slc cLI m ↔ l = m := slc_eq ok_cLI
theorem cTerrain_eq (a b : DTerrain) : cTerrain a = cTerrain b ↔ a = b := by
  obtain ⟨_, _, _, _, _⟩ := a
  obtain ⟨_, _, _, _, _⟩ := b
  simp [cTerrain, and_assoc, byte_inj]
attribute [simp] cTerrain_eq
theorem ok_cTerrain : COk cTerrain 5 := ⟨fun _ => rfl, fun a b h => (cTerrain_eq a b).1 h⟩
@[simp] theorem rw_cTerrain {fr nest : Bool} {l m : List DTerrain} : rowB fr nest 5 cTerrain l = rowB fr nest 5 cTerrain m ↔ l = m := rowB_eq ok_cTerrain (by decide)
@[simp] theorem slc_cTerrain (l m : List DTerrain) : slc cTerrain l = slc cTerrain m ↔ l = m := slc_eq ok_cTerrain
theorem cLTerrain_eq (a b : List DTerrain) : cLTerrain a = cLTerrain b ↔ a = b := by simp [cLTerrain, byte_inj]
attribute [simp] cLTerrain_eq
theorem ok_cLTerrain : COk cLTerrain 1 := ⟨fun _ => rfl, fun a b h => (cLTerrain_eq a b).1 h⟩
@[simp] theorem rw_cLTerrain {fr nest : Bool} {l m : List (List DTerrain)} : rowB fr nest 1 cLTerrain l = rowB fr nest 1 cLTerrain m ↔ l = m := rowB_eq ok_cLTerrain (by decide)
@[simp] theorem slc_cLTerrain (l m : List (List DTerrain)) : slc cLTerrain l = slc cLTerrain m ↔ l = m := slc_eq ok_cLTerrain
theorem cKind_eq (a b : DKind) : cKind a = cKind b ↔ a = b := by
  obtain ⟨_, _, _, _, _, _⟩ := a
  obtain ⟨_, _, _, _, _, _⟩ := b
  simp [cKind, and_assoc, byte_inj]
attribute [simp] cKind_eq
theorem ok_cKind : COk cKind 6 := ⟨fun _ => rfl, fun a b h => (cKind_eq a b).1 h⟩
@[simp] theorem rw_cKind {fr nest : Bool} {l m : List DKind} : rowB fr nest 6 cKind l = rowB fr nest 6 cKind m ↔ l = m := rowB_eq ok_cKind (by decide)
@[simp] theorem slc_cKind (l m : List DKind) : slc cKind l = slc cKind m ↔ l = m := slc_eq ok_cKind
theorem cLKind_eq (a b : List DKind) : cLKind a = cLKind b ↔ a = b := by simp [cLKind, byte_inj]
attribute [simp] cLKind_eq
theorem ok_cLKind : COk cLKind 1 := ⟨fun _ => rfl, fun a b h => (cLKind_eq a b).1 h⟩
@[simp] theorem rw_cLKind {fr nest : Bool} {l m : List (List DKind)} : rowB fr nest 1 cLKind l = rowB fr nest 1 cLKind m ↔ l = m := rowB_eq ok_cLKind (by decide)
@[simp] theorem slc_cLKind (l m : List (List DKind)) : slc cLKind l = slc cLKind m ↔ l = m := slc_eq ok_cLKind
theorem cRules_eq (a b : DRules) : cRules a = cRules b ↔ a = b := by
  obtain ⟨_, _, _, _, _, _, _⟩ := a
  obtain ⟨_, _, _, _, _, _, _⟩ := b
  simp [cRules, and_assoc, byte_inj]
attribute [simp] cRules_eq
theorem ok_cRules : COk cRules 7 := ⟨fun _ => rfl, fun a b h => (cRules_eq a b).1 h⟩
@[simp] theorem rw_cRules {fr nest : Bool} {l m : List DRules} : rowB fr nest 7 cRules l = rowB fr nest 7 cRules m ↔ l = m := rowB_eq ok_cRules (by decide)
@[simp] theorem slc_cRules (l m : List DRules) : slc cRules l = slc cRules m ↔ l = m := slc_eq ok_cRules
theorem cMap_eq (a b : DMap) : cMap a = cMap b ↔ a = b := by
  obtain ⟨_, _, _, _, _⟩ := a
  obtain ⟨_, _, _, _, _⟩ := b
  simp [cMap, and_assoc, byte_inj]
attribute [simp] cMap_eq
theorem ok_cMap : COk cMap 5 := ⟨fun _ => rfl, fun a b h => (cMap_eq a b).1 h⟩
@[simp] theorem rw_cMap {fr nest : Bool} {l m : List DMap} : rowB fr nest 5 cMap l = rowB fr nest 5 cMap m ↔ l = m := rowB_eq ok_cMap (by decide)
@[simp] theorem slc_cMap (l m : List DMap) : slc cMap l = slc cMap m ↔ l = m := slc_eq ok_cMap
theorem cBoard_eq (a b : DBoard) : cBoard a = cBoard b ↔ a = b := by
  obtain ⟨⟨_, _, _, _, _, _, _⟩, ⟨_, _, _, _, _⟩⟩ := a
  obtain ⟨⟨_, _, _, _, _, _, _⟩, ⟨_, _, _, _, _⟩⟩ := b
  simp [cBoard, and_assoc, byte_inj]
attribute [simp] cBoard_eq
theorem ok_cBoard : COk cBoard 12 := ⟨fun _ => rfl, fun a b h => (cBoard_eq a b).1 h⟩
@[simp] theorem rw_cBoard {fr nest : Bool} {l m : List DBoard} : rowB fr nest 12 cBoard l = rowB fr nest 12 cBoard m ↔ l = m := rowB_eq ok_cBoard (by decide)
@[simp] theorem slc_cBoard (l m : List DBoard) : slc cBoard l = slc cBoard m ↔ l = m := slc_eq ok_cBoard
theorem cUnit_eq (a b : DUnit) : cUnit a = cUnit b ↔ a = b := by
  obtain ⟨_, _, _, _⟩ := a
  obtain ⟨_, _, _, _⟩ := b
  simp [cUnit, and_assoc, byte_inj]
attribute [simp] cUnit_eq
theorem ok_cUnit : COk cUnit 4 := ⟨fun _ => rfl, fun a b h => (cUnit_eq a b).1 h⟩
@[simp] theorem rw_cUnit {fr nest : Bool} {l m : List DUnit} : rowB fr nest 4 cUnit l = rowB fr nest 4 cUnit m ↔ l = m := rowB_eq ok_cUnit (by decide)
@[simp] theorem slc_cUnit (l m : List DUnit) : slc cUnit l = slc cUnit m ↔ l = m := slc_eq ok_cUnit
theorem cLUnit_eq (a b : List DUnit) : cLUnit a = cLUnit b ↔ a = b := by simp [cLUnit, byte_inj]
attribute [simp] cLUnit_eq
theorem ok_cLUnit : COk cLUnit 1 := ⟨fun _ => rfl, fun a b h => (cLUnit_eq a b).1 h⟩
@[simp] theorem rw_cLUnit {fr nest : Bool} {l m : List (List DUnit)} : rowB fr nest 1 cLUnit l = rowB fr nest 1 cLUnit m ↔ l = m := rowB_eq ok_cLUnit (by decide)
@[simp] theorem slc_cLUnit (l m : List (List DUnit)) : slc cLUnit l = slc cLUnit m ↔ l = m := slc_eq ok_cLUnit
theorem cState_eq (a b : DState) : cState a = cState b ↔ a = b := by
  obtain ⟨_, _, _⟩ := a
  obtain ⟨_, _, _⟩ := b
  simp [cState, and_assoc, byte_inj]
attribute [simp] cState_eq
theorem ok_cState : COk cState 3 := ⟨fun _ => rfl, fun a b h => (cState_eq a b).1 h⟩
@[simp] theorem rw_cState {fr nest : Bool} {l m : List DState} : rowB fr nest 3 cState l = rowB fr nest 3 cState m ↔ l = m := rowB_eq ok_cState (by decide)
@[simp] theorem slc_cState (l m : List DState) : slc cState l = slc cState m ↔ l = m := slc_eq ok_cState
theorem cGoal_eq (a b : DGoal) : cGoal a = cGoal b ↔ a = b := by
  obtain ⟨_, _⟩ := a
  obtain ⟨_, _⟩ := b
  simp [cGoal, and_assoc, byte_inj]
attribute [simp] cGoal_eq
theorem ok_cGoal : COk cGoal 2 := ⟨fun _ => rfl, fun a b h => (cGoal_eq a b).1 h⟩
@[simp] theorem rw_cGoal {fr nest : Bool} {l m : List DGoal} : rowB fr nest 2 cGoal l = rowB fr nest 2 cGoal m ↔ l = m := rowB_eq ok_cGoal (by decide)
@[simp] theorem slc_cGoal (l m : List DGoal) : slc cGoal l = slc cGoal m ↔ l = m := slc_eq ok_cGoal
theorem cLGoal_eq (a b : List DGoal) : cLGoal a = cLGoal b ↔ a = b := by simp [cLGoal, byte_inj]
attribute [simp] cLGoal_eq
theorem ok_cLGoal : COk cLGoal 1 := ⟨fun _ => rfl, fun a b h => (cLGoal_eq a b).1 h⟩
@[simp] theorem rw_cLGoal {fr nest : Bool} {l m : List (List DGoal)} : rowB fr nest 1 cLGoal l = rowB fr nest 1 cLGoal m ↔ l = m := rowB_eq ok_cLGoal (by decide)
@[simp] theorem slc_cLGoal (l m : List (List DGoal)) : slc cLGoal l = slc cLGoal m ↔ l = m := slc_eq ok_cLGoal
theorem cConditions_eq (a b : DConditions) : cConditions a = cConditions b ↔ a = b := by
  obtain ⟨_, _, _⟩ := a
  obtain ⟨_, _, _⟩ := b
  simp [cConditions, and_assoc, byte_inj]
attribute [simp] cConditions_eq
theorem ok_cConditions : COk cConditions 3 := ⟨fun _ => rfl, fun a b h => (cConditions_eq a b).1 h⟩
@[simp] theorem rw_cConditions {fr nest : Bool} {l m : List DConditions} : rowB fr nest 3 cConditions l = rowB fr nest 3 cConditions m ↔ l = m := rowB_eq ok_cConditions (by decide)
@[simp] theorem slc_cConditions (l m : List DConditions) : slc cConditions l = slc cConditions m ↔ l = m := slc_eq ok_cConditions
theorem cU64_eq (a b : Int) : cU64 a = cU64 b ↔ a = b := by simp [cU64, byte_inj]
attribute [simp] cU64_eq
theorem ok_cU64 : COk cU64 1 := ⟨fun _ => rfl, fun a b h => (cU64_eq a b).1 h⟩
@[simp] theorem rw_cU64 {fr nest : Bool} {l m : List Int} : rowB fr nest 1 cU64 l = rowB fr nest 1 cU64 m ↔ l = m := rowB_eq ok_cU64 (by decide)
@[simp] theorem slc_cU64 (l m : List Int) : slc cU64 l = slc cU64 m ↔ l = m := slc_eq ok_cU64
theorem cl1Cur_eq (a b : Dl1Cur) : cl1Cur a = cl1Cur b ↔ a = b := by
  obtain ⟨_, _, _⟩ := a
  obtain ⟨_, _, _⟩ := b
  simp [cl1Cur, and_assoc, byte_inj]
attribute [simp] cl1Cur_eq
theorem ok_cl1Cur : COk cl1Cur 3 := ⟨fun _ => rfl, fun a b h => (cl1Cur_eq a b).1 h⟩
@[simp] theorem rw_cl1Cur {fr nest : Bool} {l m : List Dl1Cur} : rowB fr nest 3 cl1Cur l = rowB fr nest 3 cl1Cur m ↔ l = m := rowB_eq ok_cl1Cur (by decide)
@[simp] theorem slc_cl1Cur (l m : List Dl1Cur) : slc cl1Cur l = slc cl1Cur m ↔ l = m := slc_eq ok_cl1Cur
theorem cA2I_eq (a b : A2I) : cA2I a = cA2I b ↔ a = b := by
  obtain ⟨_, _⟩ := a
  obtain ⟨_, _⟩ := b
  simp [cA2I, and_assoc, byte_inj]
attribute [simp] cA2I_eq
theorem ok_cA2I : COk cA2I 2 := ⟨fun _ => rfl, fun a b h => (cA2I_eq a b).1 h⟩
@[simp] theorem rw_cA2I {fr nest : Bool} {l m : List A2I} : rowB fr nest 2 cA2I l = rowB fr nest 2 cA2I m ↔ l = m := rowB_eq ok_cA2I (by decide)
@[simp] theorem slc_cA2I (l m : List A2I) : slc cA2I l = slc cA2I m ↔ l = m := slc_eq ok_cA2I
theorem cLA2I_eq (a b : List A2I) : cLA2I a = cLA2I b ↔ a = b := by simp [cLA2I, byte_inj]
attribute [simp] cLA2I_eq
theorem ok_cLA2I : COk cLA2I 1 := ⟨fun _ => rfl, fun a b h => (cLA2I_eq a b).1 h⟩
@[simp] theorem rw_cLA2I {fr nest : Bool} {l m : List (List A2I)} : rowB fr nest 1 cLA2I l = rowB fr nest 1 cLA2I m ↔ l = m := rowB_eq ok_cLA2I (by decide)
@[simp] theorem slc_cLA2I (l m : List (List A2I)) : slc cLA2I l = slc cLA2I m ↔ l = m := slc_eq ok_cLA2I
theorem cLLI_eq (a b : List (List Int)) : cLLI a = cLLI b ↔ a = b := by simp [cLLI, byte_inj]
attribute [simp] cLLI_eq
theorem ok_cLLI : COk cLLI 1 := ⟨fun _ => rfl, fun a b h => (cLLI_eq a b).1 h⟩
@[simp] theorem rw_cLLI {fr nest : Bool} {l m : List (List (List Int))} : rowB fr nest 1 cLLI l = rowB fr nest 1 cLLI m ↔ l = m := rowB_eq ok_cLLI (by decide)
@[simp] theorem slc_cLLI (l m : List (List (List Int))) : slc cLLI l = slc cLLI m ↔ l = m := slc_eq ok_cLLI
theorem cLS_eq (a b : List ByteArray) : cLS a = cLS b ↔ a = b := by simp [cLS, byte_inj]
attribute [simp] cLS_eq
theorem ok_cLS : COk cLS 1 := ⟨fun _ => rfl, fun a b h => (cLS_eq a b).1 h⟩
@[simp] theorem rw_cLS {fr nest : Bool} {l m : List (List ByteArray)} : rowB fr nest 1 cLS l = rowB fr nest 1 cLS m ↔ l = m := rowB_eq ok_cLS (by decide)
@[simp] theorem slc_cLS (l m : List (List ByteArray)) : slc cLS l = slc cLS m ↔ l = m := slc_eq ok_cLS
theorem cHex_eq (a b : DHex) : cHex a = cHex b ↔ a = b := by
  obtain ⟨_, _⟩ := a
  obtain ⟨_, _⟩ := b
  simp [cHex, and_assoc, byte_inj]
attribute [simp] cHex_eq
theorem ok_cHex : COk cHex 2 := ⟨fun _ => rfl, fun a b h => (cHex_eq a b).1 h⟩
@[simp] theorem rw_cHex {fr nest : Bool} {l m : List DHex} : rowB fr nest 2 cHex l = rowB fr nest 2 cHex m ↔ l = m := rowB_eq ok_cHex (by decide)
@[simp] theorem slc_cHex (l m : List DHex) : slc cHex l = slc cHex m ↔ l = m := slc_eq ok_cHex
theorem cA6Hex_eq (a b : A6Hex) : cA6Hex a = cA6Hex b ↔ a = b := by
  obtain ⟨⟨_, _⟩, ⟨_, _⟩, ⟨_, _⟩, ⟨_, _⟩, ⟨_, _⟩, ⟨_, _⟩⟩ := a
  obtain ⟨⟨_, _⟩, ⟨_, _⟩, ⟨_, _⟩, ⟨_, _⟩, ⟨_, _⟩, ⟨_, _⟩⟩ := b
  simp [cA6Hex, and_assoc, byte_inj]
attribute [simp] cA6Hex_eq
theorem ok_cA6Hex : COk cA6Hex 12 := ⟨fun _ => rfl, fun a b h => (cA6Hex_eq a b).1 h⟩
@[simp] theorem rw_cA6Hex {fr nest : Bool} {l m : List A6Hex} : rowB fr nest 12 cA6Hex l = rowB fr nest 12 cA6Hex m ↔ l = m := rowB_eq ok_cA6Hex (by decide)
@[simp] theorem slc_cA6Hex (l m : List A6Hex) : slc cA6Hex l = slc cA6Hex m ↔ l = m := slc_eq ok_cA6Hex
theorem cTerrainN_eq (a b : DTerrain) : cTerrainN a = cTerrainN b ↔ a = b := by
  obtain ⟨_, _, _, _, _⟩ := a
  obtain ⟨_, _, _, _, _⟩ := b
  simp only [cTerrainN, List.cons.injEq, AV.sc.injEq, Value.string.injEq, Value.int.injEq, Value.bool.injEq, nst_eq ok_cI, true_and, and_true, DTerrain.mk.injEq]
attribute [simp] cTerrainN_eq
theorem ok_cTerrainN : COk cTerrainN 5 := ⟨fun _ => rfl, fun a b h => (cTerrainN_eq a b).1 h⟩
@[simp] theorem rw_cTerrainN {fr nest : Bool} {l m : List DTerrain} : rowB fr nest 5 cTerrainN l = rowB fr nest 5 cTerrainN m ↔ l = m := rowB_eq ok_cTerrainN (by decide)
theorem sl_cY : SlOk Tryz.prog 22 cY := ⟨5, 1, by kernel_rfl, by kernel_rfl, ok_cY⟩
theorem rt_cY : RowT Tryz.prog 22 cY 1 1 := ⟨ok_cY, by decide, fun _ => rfl, ⟨5, [.sc (.int .u8 0)], by kernel_rfl, by kernel_rfl, by kernel_rfl, by kernel_rfl, rfl⟩⟩
theorem ag_cY : szT Tryz.prog 5 = some 1 ∧ aggT Tryz.prog 5 = some false := ⟨by kernel_rfl, by kernel_rfl⟩
theorem sl_cTerrain : SlOk Tryz.prog 23 cTerrain := ⟨101, 5, by kernel_rfl, by kernel_rfl, ok_cTerrain⟩
theorem rt_cTerrain : RowT Tryz.prog 23 cTerrain 5 64 := ⟨ok_cTerrain, by decide, fun _ => rfl, ⟨101, [S ByteArray.empty, .emp, I 0, I 0, B false], by kernel_rfl, by kernel_rfl, by kernel_rfl, by kernel_rfl, rfl⟩⟩
theorem ag_cTerrain : szT Tryz.prog 101 = some 5 ∧ aggT Tryz.prog 101 = some true := ⟨by kernel_rfl, by kernel_rfl⟩
theorem str_ok : isStrT Tryz.prog 9 = true := by kernel_rfl
theorem sl_cI : SlOk Tryz.prog 27 cI := ⟨3, 1, by kernel_rfl, by kernel_rfl, ok_cI⟩
theorem rt_cI : RowT Tryz.prog 27 cI 1 8 := ⟨ok_cI, by decide, fun _ => rfl, ⟨3, [I 0], by kernel_rfl, by kernel_rfl, by kernel_rfl, by kernel_rfl, rfl⟩⟩
theorem ag_cI : szT Tryz.prog 3 = some 1 ∧ aggT Tryz.prog 3 = some false := ⟨by kernel_rfl, by kernel_rfl⟩
theorem sl_cKind : SlOk Tryz.prog 24 cKind := ⟨85, 6, by kernel_rfl, by kernel_rfl, ok_cKind⟩
theorem rt_cKind : RowT Tryz.prog 24 cKind 6 56 := ⟨ok_cKind, by decide, fun _ => rfl, ⟨85, [S ByteArray.empty, I 0, I 0, I 0, B false, I 0], by kernel_rfl, by kernel_rfl, by kernel_rfl, by kernel_rfl, rfl⟩⟩
theorem ag_cKind : szT Tryz.prog 85 = some 6 ∧ aggT Tryz.prog 85 = some true := ⟨by kernel_rfl, by kernel_rfl⟩
theorem sl_cUnit : SlOk Tryz.prog 32 cUnit := ⟨77, 4, by kernel_rfl, by kernel_rfl, ok_cUnit⟩
theorem rt_cUnit : RowT Tryz.prog 32 cUnit 4 32 := ⟨ok_cUnit, by decide, fun _ => rfl, ⟨77, [I 0, I 0, I 0, I 0], by kernel_rfl, by kernel_rfl, by kernel_rfl, by kernel_rfl, rfl⟩⟩
theorem ag_cUnit : szT Tryz.prog 77 = some 4 ∧ aggT Tryz.prog 77 = some true := ⟨by kernel_rfl, by kernel_rfl⟩
theorem sl_cGoal : SlOk Tryz.prog 35 cGoal := ⟨52, 2, by kernel_rfl, by kernel_rfl, ok_cGoal⟩
theorem rt_cGoal : RowT Tryz.prog 35 cGoal 2 16 := ⟨ok_cGoal, by decide, fun _ => rfl, ⟨52, [I 0, I 0], by kernel_rfl, by kernel_rfl, by kernel_rfl, by kernel_rfl, rfl⟩⟩
theorem ag_cGoal : szT Tryz.prog 52 = some 2 ∧ aggT Tryz.prog 52 = some true := ⟨by kernel_rfl, by kernel_rfl⟩
theorem ar_cA2I : arT Tryz.prog 69 = some (2, 3) ∧ szT Tryz.prog 3 = some 1 ∧ slT Tryz.prog 69 = none := ⟨by kernel_rfl, by kernel_rfl, by kernel_rfl⟩
theorem sl_cA2I : SlOk Tryz.prog 99 cA2I := ⟨69, 2, by kernel_rfl, by kernel_rfl, ok_cA2I⟩
theorem rt_cA2I : RowT Tryz.prog 99 cA2I 2 16 := ⟨ok_cA2I, by decide, fun _ => rfl, ⟨69, [I 0, I 0], by kernel_rfl, by kernel_rfl, by kernel_rfl, by kernel_rfl, rfl⟩⟩
theorem ag_cA2I : szT Tryz.prog 69 = some 2 ∧ aggT Tryz.prog 69 = some true := ⟨by kernel_rfl, by kernel_rfl⟩
theorem sl_cLI : SlOk Tryz.prog 106 cLI := ⟨27, 1, by kernel_rfl, by kernel_rfl, ok_cLI⟩
theorem rt_cLI : RowT Tryz.prog 106 cLI 1 24 := ⟨ok_cLI, by decide, fun _ => rfl, ⟨27, [.emp], by kernel_rfl, by kernel_rfl, by kernel_rfl, by kernel_rfl, rfl⟩⟩
theorem ag_cLI : szT Tryz.prog 27 = some 1 ∧ aggT Tryz.prog 27 = some false := ⟨by kernel_rfl, by kernel_rfl⟩
theorem sl_cS : SlOk Tryz.prog 126 cS := ⟨9, 1, by kernel_rfl, by kernel_rfl, ok_cS⟩
theorem rt_cS : RowT Tryz.prog 126 cS 1 16 := ⟨ok_cS, by decide, fun _ => rfl, ⟨9, [S ByteArray.empty], by kernel_rfl, by kernel_rfl, by kernel_rfl, by kernel_rfl, rfl⟩⟩
theorem ag_cS : szT Tryz.prog 9 = some 1 ∧ aggT Tryz.prog 9 = some false := ⟨by kernel_rfl, by kernel_rfl⟩
theorem ar_cA6Hex : arT Tryz.prog 132 = some (6, 129) ∧ szT Tryz.prog 129 = some 2 ∧ slT Tryz.prog 132 = none := ⟨by kernel_rfl, by kernel_rfl, by kernel_rfl⟩
end Go.Ev
