/-
  Ed: one of the texts behind the proof of 'laws.FnGoals': the program's types as data
  Its conditions: none of its own.
-/
import Derived.Test.YtdcncfiphjhflaaGreatDoorEc
import Derived.Test.YtdcncfiphjhflaaGreatDoorProg
import Derived.KernelRfl
set_option maxRecDepth 100000
set_option linter.unusedVariables false
set_option linter.unusedSectionVars false
set_option linter.unusedSimpArgs false
/-
  THE DATA that the program handles: its structs, how they lie in cells; the table of types; the configuration of the evaluator.
  Written by a program (types.py) off the translation's own tables.
-/
namespace Go.Ev
open Go Go.Proofs
abbrev I (n : Int) : AV := .sc (.int .i64 n)
abbrev K (k : IntKind) (n : Int) : AV := .sc (.int k n)
abbrev B (b : Bool) : AV := .sc (.bool b)
abbrev S (s : ByteArray) : AV := .sc (.string s)
def cI (n : Int) : List AV := [I n]
def cU64 (n : Int) : List AV := [K .u64 n]
def cI32 (n : Int) : List AV := [K .i32 n]
def cU32 (n : Int) : List AV := [K .u32 n]
def cB (b : Bool) : List AV := [B b]
def cS (s : ByteArray) : List AV := [S s]
/-- A slice of the program's own arguments. -/
structure KSl where
  A : Option Addr
  n : Nat
  k : Nat
def Kn (x : KSl) : AV := .sc (.slice x.A x.n x.k)
@[simp] theorem Kn_eq (a b : KSl) : Kn a = Kn b ↔ a = b := by
  obtain ⟨_, _, _⟩ := a
  obtain ⟨_, _, _⟩ := b
  simp [Kn]
def cLY (l : List UInt8) : List AV := [slc cY l]
def cLI (l : List Int) : List AV := [slc cI l]
structure DTerrain where
  Name : ByteArray
  Cost : List Int
  Shift : Int
  Height : Int
  Blocks : Bool
def cTerrain (x : DTerrain) : List AV := [S x.Name, slc cI x.Cost, I x.Shift, I x.Height, B x.Blocks]
def cLTerrain (l : List DTerrain) : List AV := [slc cTerrain l]
structure DKind where
  Name : ByteArray
  Strength : Int
  Moves : Int
  Steps : Int
  Zone : Bool
  View : Int
def cKind (x : DKind) : List AV := [S x.Name, I x.Strength, I x.Moves, I x.Steps, B x.Zone, I x.View]
def cLKind (l : List DKind) : List AV := [slc cKind l]
structure DRules where
  Terrains : List DTerrain
  Kinds : List DKind
  Stack : Int
  River : Int
  Road : Int
  Supply : Int
  Turns : Int
def cRules (x : DRules) : List AV := [slc cTerrain x.Terrains, slc cKind x.Kinds, I x.Stack, I x.River, I x.Road, I x.Supply, I x.Turns]
structure DMap where
  Width : Int
  Height : Int
  Terrain : List Int
  Rivers : List Int
  Roads : List Int
def cMap (x : DMap) : List AV := [I x.Width, I x.Height, slc cI x.Terrain, slc cI x.Rivers, slc cI x.Roads]
structure DBoard where
  Rules : DRules
  Map : DMap
def cBoard (x : DBoard) : List AV := [slc cTerrain x.Rules.Terrains, slc cKind x.Rules.Kinds, I x.Rules.Stack, I x.Rules.River, I x.Rules.Road, I x.Rules.Supply, I x.Rules.Turns, I x.Map.Width, I x.Map.Height, slc cI x.Map.Terrain, slc cI x.Map.Rivers, slc cI x.Map.Roads]
structure DUnit where
  Side : Int
  Kind : Int
  At : Int
  Steps : Int
def cUnit (x : DUnit) : List AV := [I x.Side, I x.Kind, I x.At, I x.Steps]
def cLUnit (l : List DUnit) : List AV := [slc cUnit l]
structure DState where
  Turn : Int
  Weather : Int
  Units : List DUnit
def cState (x : DState) : List AV := [I x.Turn, I x.Weather, slc cUnit x.Units]
structure DGoal where
  At : Int
  Points : Int
def cGoal (x : DGoal) : List AV := [I x.At, I x.Points]
def cLGoal (l : List DGoal) : List AV := [slc cGoal l]
structure DConditions where
  Goals : List DGoal
  Step : Int
  Margin : Int
def cConditions (x : DConditions) : List AV := [slc cGoal x.Goals, I x.Step, I x.Margin]
structure DHex where
  Q : Int
  R : Int
def cHex (x : DHex) : List AV := [I x.Q, I x.R]
structure Dl1Cur where
  code_ : KSl
  at_ : Int
  seed_ : Int
def cl1Cur (x : Dl1Cur) : List AV := [Kn x.code_, I x.at_, K .u64 x.seed_]
def cLS (l : List ByteArray) : List AV := [slc cS l]
def cLLI (l : List (List Int)) : List AV := [slc cLI l]
structure A2I where
  a0 : Int
  a1 : Int
def cA2I (x : A2I) : List AV := [I x.a0, I x.a1]
def cLA2I (l : List A2I) : List AV := [slc cA2I l]
structure A6Hex where
  a0 : DHex
  a1 : DHex
  a2 : DHex
  a3 : DHex
  a4 : DHex
  a5 : DHex
def cA6Hex (x : A6Hex) : List AV := [I x.a0.Q, I x.a0.R, I x.a1.Q, I x.a1.R, I x.a2.Q, I x.a2.R, I x.a3.Q, I x.a3.R, I x.a4.Q, I x.a4.R, I x.a5.Q, I x.a5.R]
def tblAt : List (TypeId × TE) → TypeId → Option TE
  | [], _ => none
  | (a, e) :: r, t => bif Nat.beq a t then some e else tblAt r t
def tLY : TE := ⟨List UInt8, false, cLY⟩
def tY : TE := ⟨UInt8, false, cY⟩
def tB : TE := ⟨Bool, false, cB⟩
def tI : TE := ⟨Int, false, cI⟩
def tBoard : TE := ⟨DBoard, true, cBoard⟩
def tRules : TE := ⟨DRules, true, cRules⟩
def tLTerrain : TE := ⟨List DTerrain, false, cLTerrain⟩
def tTerrain : TE := ⟨DTerrain, true, cTerrain⟩
def tS : TE := ⟨ByteArray, false, cS⟩
def tLI : TE := ⟨List Int, false, cLI⟩
def tLKind : TE := ⟨List DKind, false, cLKind⟩
def tKind : TE := ⟨DKind, true, cKind⟩
def tMap : TE := ⟨DMap, true, cMap⟩
def tState : TE := ⟨DState, true, cState⟩
def tLUnit : TE := ⟨List DUnit, false, cLUnit⟩
def tUnit : TE := ⟨DUnit, true, cUnit⟩
def tConditions : TE := ⟨DConditions, true, cConditions⟩
def tLGoal : TE := ⟨List DGoal, false, cLGoal⟩
def tGoal : TE := ⟨DGoal, true, cGoal⟩
def tHex : TE := ⟨DHex, true, cHex⟩
def tl1Cur : TE := ⟨Dl1Cur, true, cl1Cur⟩
def tU64 : TE := ⟨Int, false, cU64⟩
def tLS : TE := ⟨List ByteArray, false, cLS⟩
def tLLI : TE := ⟨List (List Int), false, cLLI⟩
def tLA2I : TE := ⟨List A2I, false, cLA2I⟩
def tA2I : TE := ⟨A2I, true, cA2I⟩
def tA6Hex : TE := ⟨A6Hex, true, cA6Hex⟩
def tbl : Tbl := tblAt [(22, tLY), (5, tY), (4, tB), (3, tI), (31, tBoard), (30, tBoard), (26, tRules), (25, tRules), (23, tLTerrain), (105, tTerrain), (104, tTerrain), (9, tS), (27, tLI), (24, tLKind), (109, tKind), (108, tKind), (29, tMap), (28, tMap), (34, tState), (33, tState), (32, tLUnit), (55, tUnit), (54, tUnit), (37, tConditions), (36, tConditions), (35, tLGoal), (57, tGoal), (56, tGoal), (51, tHex), (50, tHex), (63, tl1Cur), (62, tl1Cur), (61, tU64), (107, tLS), (114, tLLI), (121, tLA2I), (122, tA2I), (131, tA6Hex)]
def rowAt : List ((Nat × Nat) × Nat) → Nat → Nat → Option TypeId
  | [], _, _ => none
  | (a, h) :: r, f, i => bif Nat.beq a.1 f && Nat.beq a.2 i then some h else rowAt r f i
def rowTab : List ((Nat × Nat) × Nat) := [((3, 0), 5), ((3, 1), 5), ((3, 36), 5), ((3, 38), 5), ((3, 43), 5), ((3, 68), 5), ((3, 88), 5), ((3, 162), 55), ((3, 174), 57), ((3, 200005), 105), ((3, 300005), 109), ((3, 400005), 3), ((3, 500005), 3), ((3, 600005), 3), ((3, 200006), 55), ((3, 200007), 57), ((3, 200015), 105), ((3, 300015), 109), ((3, 400015), 3), ((3, 500015), 3), ((3, 600015), 3), ((3, 200016), 55), ((3, 200022), 105), ((3, 300022), 109), ((3, 400022), 3), ((3, 500022), 3), ((3, 600022), 3), ((3, 200023), 57), ((4, 0), 5), ((4, 10), 5), ((4, 200002), 105), ((4, 300002), 109), ((4, 400002), 3), ((4, 500002), 3), ((4, 600002), 3), ((4, 200003), 55), ((4, 200004), 57), ((4, 200012), 5), ((4, 200007), 105), ((4, 300007), 109), ((4, 400007), 3), ((4, 500007), 3), ((4, 600007), 3), ((4, 200008), 55), ((4, 200009), 57), ((5, 30), 57), ((5, 35), 57), ((5, 45), 55), ((5, 200004), 105), ((5, 300004), 109), ((5, 400004), 3), ((5, 500004), 3), ((5, 600004), 3), ((5, 200005), 55), ((5, 200006), 57), ((6, 30), 55), ((6, 39), 57), ((6, 44), 57), ((6, 54), 55), ((6, 200004), 105), ((6, 300004), 109), ((6, 400004), 3), ((6, 500004), 3), ((6, 600004), 3), ((6, 200005), 55), ((6, 200006), 57), ((7, 0), 5), ((7, 5), 5), ((7, 200002), 105), ((7, 300002), 109), ((7, 400002), 3), ((7, 500002), 3), ((7, 600002), 3), ((7, 200003), 55), ((8, 200003), 105), ((8, 300003), 109), ((8, 400003), 3), ((8, 500003), 3), ((8, 600003), 3), ((8, 200004), 55), ((9, 200003), 105), ((9, 300003), 109), ((9, 400003), 3), ((9, 500003), 3), ((9, 600003), 3), ((9, 200004), 55), ((10, 0), 5), ((10, 6), 5), ((10, 200002), 105), ((10, 300002), 109), ((10, 400002), 3), ((10, 500002), 3), ((10, 600002), 3), ((10, 200003), 57), ((10, 200008), 5), ((10, 200005), 105), ((10, 300005), 109), ((10, 400005), 3), ((10, 500005), 3), ((10, 600005), 3), ((11, 200002), 105), ((11, 300002), 109), ((11, 400002), 3), ((11, 500002), 3), ((11, 600002), 3), ((11, 200003), 57), ((12, 200002), 105), ((12, 300002), 109), ((12, 400002), 3), ((12, 500002), 3), ((12, 600002), 3), ((12, 200003), 57), ((13, 200003), 105), ((13, 300003), 109), ((13, 400003), 3), ((13, 500003), 3), ((13, 600003), 3), ((13, 200004), 55), ((14, 200002), 3), ((14, 300002), 3), ((14, 400002), 3), ((16, 28), 55), ((16, 34), 55), ((16, 46), 55), ((16, 200002), 105), ((16, 300002), 109), ((16, 400002), 3), ((16, 500002), 3), ((16, 600002), 3), ((16, 200003), 55), ((16, 200004), 57), ((16, 100011), 55), ((16, 200005), 105), ((16, 300005), 109), ((16, 400005), 3), ((16, 500005), 3), ((16, 600005), 3), ((16, 200006), 55), ((17, 7), 55), ((17, 200003), 55), ((18, 200003), 105), ((18, 300003), 109), ((18, 400003), 3), ((18, 500003), 3), ((18, 600003), 3), ((18, 200004), 55), ((18, 200005), 57), ((19, 13), 55), ((19, 200003), 105), ((19, 300003), 109), ((19, 400003), 3), ((19, 500003), 3), ((19, 600003), 3), ((19, 200004), 55), ((21, 200002), 3), ((21, 300002), 3), ((21, 400002), 3), ((22, 200003), 105), ((22, 300003), 109), ((22, 400003), 3), ((22, 500003), 3), ((22, 600003), 3), ((22, 200004), 55), ((22, 200005), 57), ((23, 13), 55), ((23, 200003), 105), ((23, 300003), 109), ((23, 400003), 3), ((23, 500003), 3), ((23, 600003), 3), ((23, 200004), 55), ((25, 200002), 3), ((25, 300002), 3), ((25, 400002), 3), ((26, 0), 5), ((26, 8), 5), ((26, 200002), 105), ((26, 300002), 109), ((26, 400002), 3), ((26, 500002), 3), ((26, 600002), 3), ((26, 200003), 55), ((26, 200010), 5), ((26, 100013), 55), ((26, 200006), 105), ((26, 300006), 109), ((26, 400006), 3), ((26, 500006), 3), ((26, 600006), 3), ((26, 200007), 55), ((27, 200003), 105), ((27, 300003), 109), ((27, 400003), 3), ((27, 500003), 3), ((27, 600003), 3), ((27, 200004), 55), ((28, 200003), 105), ((28, 300003), 109), ((28, 400003), 3), ((28, 500003), 3), ((28, 600003), 3), ((28, 200004), 55), ((29, 200003), 105), ((29, 300003), 109), ((29, 400003), 3), ((29, 500003), 3), ((29, 600003), 3), ((29, 200004), 55), ((30, 200003), 105), ((30, 300003), 109), ((30, 400003), 3), ((30, 500003), 3), ((30, 600003), 3), ((30, 200004), 55), ((31, 200002), 105), ((31, 300002), 109), ((31, 400002), 3), ((31, 500002), 3), ((31, 600002), 3), ((31, 200003), 105), ((31, 300003), 109), ((31, 400003), 3), ((31, 500003), 3), ((31, 600003), 3), ((32, 6), 3), ((32, 25), 3), ((32, 30), 3), ((32, 31), 3), ((32, 38), 57), ((32, 44), 57), ((32, 45), 57), ((32, 53), 57), ((32, 55), 3), ((32, 58), 3), ((32, 61), 57), ((32, 62), 57), ((32, 67), 3), ((32, 73), 3), ((32, 200003), 105), ((32, 300003), 109), ((32, 400003), 3), ((32, 500003), 3), ((32, 600003), 3), ((32, 200004), 57), ((32, 200005), 57), ((32, 100030), 3), ((33, 15), 3), ((33, 200001), 105), ((33, 300001), 109), ((33, 400001), 3), ((33, 500001), 3), ((33, 600001), 3), ((34, 8), 57), ((34, 24), 57), ((34, 48), 57), ((34, 200002), 105), ((34, 300002), 109), ((34, 400002), 3), ((34, 500002), 3), ((34, 600002), 3), ((34, 200003), 57), ((35, 14), 3), ((35, 17), 105), ((35, 200001), 105), ((35, 300001), 109), ((35, 400001), 3), ((35, 500001), 3), ((35, 600001), 3), ((36, 12), 57), ((36, 29), 57), ((36, 55), 57), ((36, 200002), 105), ((36, 300002), 109), ((36, 400002), 3), ((36, 500002), 3), ((36, 600002), 3), ((36, 200003), 57), ((37, 8), 55), ((37, 200002), 55), ((38, 200002), 3), ((38, 300002), 3), ((38, 400002), 3), ((40, 200002), 105), ((40, 300002), 109), ((40, 400002), 3), ((40, 500002), 3), ((40, 600002), 3), ((40, 200003), 55), ((40, 200004), 105), ((40, 300004), 109), ((40, 400004), 3), ((40, 500004), 3), ((40, 600004), 3), ((40, 100010), 55), ((41, 29), 55), ((41, 34), 55), ((41, 46), 55), ((41, 62), 3), ((41, 71), 3), ((41, 200002), 105), ((41, 300002), 109), ((41, 400002), 3), ((41, 500002), 3), ((41, 600002), 3), ((41, 200003), 55), ((44, 200002), 105), ((44, 300002), 109), ((44, 400002), 3), ((44, 500002), 3), ((44, 600002), 3), ((44, 200003), 55), ((45, 13), 55), ((45, 200003), 105), ((45, 300003), 109), ((45, 400003), 3), ((45, 500003), 3), ((45, 600003), 3), ((45, 200004), 55), ((49, 8), 55), ((49, 16), 55), ((49, 19), 55), ((49, 33), 3), ((49, 200004), 105), ((49, 300004), 109), ((49, 400004), 3), ((49, 500004), 3), ((49, 600004), 3), ((49, 200005), 55), ((51, 5), 3), ((51, 200001), 105), ((51, 300001), 109), ((51, 400001), 3), ((51, 500001), 3), ((51, 600001), 3), ((52, 200003), 105), ((52, 300003), 109), ((52, 400003), 3), ((52, 500003), 3), ((52, 600003), 3), ((52, 200004), 55), ((53, 200001), 3), ((53, 300001), 3), ((53, 400001), 3), ((54, 200003), 105), ((54, 300003), 109), ((54, 400003), 3), ((54, 500003), 3), ((54, 600003), 3), ((54, 200004), 55), ((55, 9), 105), ((55, 200002), 105), ((55, 300002), 109), ((55, 400002), 3), ((55, 500002), 3), ((55, 600002), 3), ((55, 100005), 105), ((55, 200005), 109), ((55, 200003), 105), ((55, 300003), 109), ((55, 100011), 3), ((55, 200011), 3), ((55, 300011), 3), ((56, 11), 105), ((56, 14), 3), ((56, 16), 3), ((56, 22), 105), ((56, 24), 9), ((56, 31), 109), ((56, 33), 3), ((56, 40), 109), ((56, 42), 109), ((56, 45), 109), ((56, 46), 109), ((56, 51), 3), ((56, 57), 3), ((56, 63), 105), ((56, 65), 3), ((56, 200002), 105), ((56, 300002), 109), ((56, 100005), 105), ((56, 200005), 109), ((56, 200003), 105), ((56, 300003), 109), ((57, 14), 3), ((57, 20), 3), ((57, 22), 3), ((57, 28), 3), ((57, 37), 3), ((57, 39), 3), ((57, 40), 3), ((57, 44), 3), ((57, 46), 3), ((57, 47), 3), ((57, 200002), 3), ((57, 300002), 3), ((57, 400002), 3), ((57, 100005), 3), ((57, 200005), 3), ((57, 300005), 3), ((57, 200003), 3), ((57, 300003), 3), ((57, 400003), 3), ((58, 0), 3), ((58, 4), 3), ((58, 6), 3), ((58, 8), 3), ((58, 12), 3), ((58, 22), 3), ((58, 26), 3), ((58, 33), 3), ((58, 34), 3), ((58, 35), 3), ((58, 37), 3), ((58, 38), 3), ((58, 39), 3), ((58, 41), 3), ((58, 42), 3), ((58, 43), 3), ((58, 44), 3), ((58, 46), 3), ((58, 47), 3), ((59, 10), 3), ((59, 200003), 3), ((59, 300003), 3), ((59, 400003), 3), ((60, 1), 3), ((60, 5), 3), ((60, 7), 3), ((61, 8), 105), ((61, 14), 109), ((61, 20), 105), ((61, 29), 109), ((61, 35), 105), ((61, 44), 109), ((61, 56), 109), ((61, 200001), 105), ((61, 300001), 109), ((61, 200004), 3), ((62, 6), 3), ((62, 21), 3), ((62, 31), 3), ((62, 42), 3), ((62, 44), 3), ((62, 45), 27), ((62, 50), 3), ((62, 51), 3), ((62, 54), 3), ((62, 200001), 3), ((62, 300001), 3), ((62, 400001), 3), ((63, 0), 3), ((63, 5), 3), ((64, 7), 105), ((66, 8), 105), ((66, 14), 109), ((66, 20), 105), ((66, 33), 105), ((66, 42), 3), ((66, 45), 109), ((66, 51), 3), ((66, 69), 109), ((66, 82), 109), ((66, 200001), 105), ((66, 300001), 109), ((66, 200004), 3), ((67, 13), 3), ((67, 21), 3), ((67, 27), 3), ((67, 33), 3), ((67, 200001), 3), ((67, 300001), 3), ((67, 400001), 3), ((68, 0), 3), ((68, 9), 3), ((69, 11), 55), ((69, 18), 55), ((69, 33), 3), ((69, 39), 3), ((69, 45), 55), ((69, 51), 3), ((69, 58), 55), ((69, 61), 3), ((69, 68), 55), ((69, 71), 3), ((69, 78), 55), ((69, 85), 55), ((69, 87), 55), ((69, 88), 55), ((69, 200003), 105), ((69, 300003), 109), ((69, 400003), 3), ((69, 500003), 3), ((69, 600003), 3), ((69, 200004), 55), ((69, 100015), 55), ((69, 200005), 55), ((70, 14), 109), ((70, 25), 109), ((70, 200002), 105), ((70, 300002), 109), ((70, 400002), 3), ((70, 500002), 3), ((70, 600002), 3), ((71, 6), 3), ((71, 7), 3), ((71, 11), 55), ((71, 28), 3), ((71, 30), 3), ((71, 31), 3), ((71, 33), 3), ((71, 200003), 55), ((72, 11), 5), ((72, 17), 5), ((72, 51), 5), ((73, 5), 122), ((73, 23), 55), ((73, 29), 122), ((73, 31), 55), ((73, 44), 122), ((73, 55), 122), ((73, 66), 122), ((73, 200002), 105), ((73, 300002), 109), ((73, 400002), 3), ((73, 500002), 3), ((73, 600002), 3), ((73, 200003), 55), ((75, 12), 55), ((75, 200004), 105), ((75, 300004), 109), ((75, 400004), 3), ((75, 500004), 3), ((75, 600004), 3), ((75, 200005), 55), ((76, 8), 55), ((76, 200002), 55), ((77, 13), 3), ((77, 200004), 105), ((77, 300004), 109), ((77, 400004), 3), ((77, 500004), 3), ((77, 600004), 3), ((77, 200005), 55), ((78, 3), 109), ((78, 5), 9), ((78, 43), 109), ((78, 44), 109), ((78, 48), 109), ((78, 61), 9), ((78, 70), 9), ((78, 73), 9), ((78, 93), 109), ((78, 102), 3), ((78, 104), 3), ((78, 105), 3), ((78, 109), 105), ((78, 111), 105), ((78, 112), 105), ((78, 200002), 105), ((78, 300002), 109), ((78, 200004), 105), ((78, 300004), 109), ((78, 200007), 3), ((79, 27), 3), ((79, 29), 3), ((79, 30), 3), ((79, 34), 3), ((79, 38), 3), ((79, 200004), 3), ((79, 300004), 3), ((79, 400004), 3), ((79, 200005), 3), ((79, 300005), 3), ((79, 400005), 3), ((79, 100034), 3), ((79, 100038), 3), ((80, 1), 9), ((80, 5), 9), ((80, 7), 9), ((81, 11), 3), ((81, 29), 3), ((81, 200002), 3), ((82, 0), 105), ((82, 5), 105), ((84, 0), 109), ((84, 5), 109), ((85, 0), 3), ((85, 5), 3), ((85, 10), 3), ((85, 15), 3), ((86, 200002), 3), ((86, 300002), 3), ((86, 400002), 3), ((87, 0), 3), ((87, 6), 3), ((87, 12), 3), ((89, 0), 105), ((89, 7), 105), ((89, 200006), 3), ((90, 0), 109), ((90, 7), 109), ((91, 1), 3), ((91, 7), 3), ((91, 30), 3), ((91, 200002), 3), ((91, 300002), 3), ((91, 400002), 3), ((92, 30), 109), ((92, 37), 109), ((92, 55), 55), ((92, 57), 55), ((92, 58), 55), ((92, 65), 55), ((92, 67), 55), ((92, 200003), 105), ((92, 300003), 109), ((92, 400003), 3), ((92, 500003), 3), ((92, 600003), 3), ((92, 200004), 55), ((92, 200005), 55), ((93, 10), 3), ((93, 200003), 105), ((93, 300003), 109), ((93, 400003), 3), ((93, 500003), 3), ((93, 600003), 3), ((94, 14), 109), ((94, 24), 109), ((94, 200002), 105), ((94, 300002), 109), ((94, 400002), 3), ((94, 500002), 3), ((94, 600002), 3), ((95, 14), 109), ((95, 200003), 105), ((95, 300003), 109), ((95, 400003), 3), ((95, 500003), 3), ((95, 600003), 3), ((96, 8), 3), ((96, 9), 3), ((96, 13), 55), ((96, 31), 3), ((96, 33), 3), ((96, 34), 3), ((96, 36), 3), ((96, 200004), 105), ((96, 300004), 109), ((96, 400004), 3), ((96, 500004), 3), ((96, 600004), 3), ((96, 200005), 55), ((97, 4), 3), ((97, 5), 3), ((97, 26), 3), ((97, 31), 3), ((97, 32), 3), ((97, 200003), 3), ((97, 300003), 3), ((97, 400003), 3), ((97, 100031), 3), ((100, 0), 105), ((100, 6), 105), ((100, 12), 105), ((101, 200002), 3), ((102, 0), 109), ((102, 6), 109), ((102, 12), 109), ((104, 200003), 3), ((104, 300003), 3), ((104, 400003), 3), ((105, 200003), 3), ((105, 300003), 3), ((105, 400003), 3), ((106, 0), 3), ((106, 9), 3), ((106, 25), 3), ((107, 7), 105), ((107, 10), 3), ((107, 200002), 105), ((107, 300002), 109), ((107, 400002), 3), ((107, 500002), 3), ((107, 600002), 3), ((107, 200004), 3), ((109, 10), 3), ((109, 200003), 105), ((109, 300003), 109), ((109, 400003), 3), ((109, 500003), 3), ((109, 600003), 3), ((110, 6), 3), ((110, 12), 3), ((110, 200002), 3), ((110, 300002), 3), ((110, 400002), 3), ((111, 200003), 3), ((111, 300003), 3), ((111, 400003), 3), ((112, 12), 55), ((112, 22), 109), ((112, 200004), 105), ((112, 300004), 109), ((112, 400004), 3), ((112, 500004), 3), ((112, 600004), 3), ((112, 200005), 55), ((113, 200003), 3), ((113, 300003), 3), ((113, 400003), 3), ((114, 200002), 3), ((114, 300002), 3), ((114, 400002), 3), ((116, 200002), 3), ((116, 300002), 3), ((116, 400002), 3), ((117, 7), 3), ((117, 14), 3), ((118, 7), 105), ((118, 10), 3), ((118, 200002), 105), ((118, 300002), 109), ((118, 400002), 3), ((118, 500002), 3), ((118, 600002), 3), ((118, 200004), 3), ((119, 0), 3), ((119, 5), 3), ((120, 8), 3), ((120, 200003), 3), ((120, 300003), 3), ((120, 400003), 3), ((121, 8), 3), ((121, 200003), 3), ((121, 300003), 3), ((121, 400003), 3), ((122, 0), 3), ((122, 6), 3), ((122, 12), 3), ((123, 0), 3), ((123, 7), 3)]
def capAt : List (Nat × List (Option TypeId)) → Nat → List (Option TypeId)
  | [], _ => []
  | (a, h) :: r, f => bif Nat.beq a f then h else capAt r f
def ke40 : KE := ⟨DBoard × DState, fun a => .tup [.agg [slc cTerrain a.1.Rules.Terrains, slc cKind a.1.Rules.Kinds, I a.1.Rules.Stack, I a.1.Rules.River, I a.1.Rules.Road, I a.1.Rules.Supply, I a.1.Rules.Turns, I a.1.Map.Width, I a.1.Map.Height, slc cI a.1.Map.Terrain, slc cI a.1.Map.Rivers, slc cI a.1.Map.Roads], .agg [I a.2.Turn, I a.2.Weather, .own (.r 0 0) none 0 a.2.Units.length a.2.Units.length]], fun a => [(.r 0 0, some (rowB true false 4 cUnit a.2.Units))]⟩
def ke58 : KE := ⟨List Int, fun a => .own (.r 0 0) none 0 a.length a.length, fun a => [(.r 0 0, some (rowB true false 1 cI a))]⟩
def kl58 : KE := ⟨Nat, fun a => .own (.l 0) none 0 a a, fun _ => []⟩
def ke69 : KE := ⟨DState, fun a => .agg [I a.Turn, I a.Weather, .own (.r 0 0) none 0 a.Units.length a.Units.length], fun a => [(.r 0 0, some (rowB true false 4 cUnit a.Units))]⟩
def cTerrainN (x : DTerrain) : List AV := [S x.Name, .nst 1 x.Cost.length (x.Cost.flatMap cI), I x.Shift, I x.Height, B x.Blocks]
def ke78 : KE := ⟨(DRules) × List DKind, fun a => .agg [.own (.r 0 0) none 0 a.1.Terrains.length a.1.Terrains.length, .own (.r 0 1) none 0 a.1.Kinds.length (a.1.Kinds.length + a.2.length), I a.1.Stack, I a.1.River, I a.1.Road, I a.1.Supply, I a.1.Turns], fun a => [(.r 0 0, some (rowB true true 5 cTerrainN a.1.Terrains)), (.r 0 1, some (rowB true false 6 cKind (a.1.Kinds ++ a.2)))]⟩
def ke79 : KE := ⟨DMap, fun a => .agg [I a.Width, I a.Height, .own (.r 0 0) none 0 a.Terrain.length a.Terrain.length, .own (.r 0 1) none 0 a.Rivers.length a.Rivers.length, .own (.r 0 2) none 0 a.Roads.length a.Roads.length], fun a => [(.r 0 0, some (rowB true false 1 cI a.Terrain)), (.r 0 1, some (rowB true false 1 cI a.Rivers)), (.r 0 2, some (rowB true false 1 cI a.Roads))]⟩
def ke92 : KE := ⟨DState, fun a => .agg [I a.Turn, I a.Weather, .own (.r 0 0) none 0 a.Units.length a.Units.length], fun a => [(.r 0 0, some (rowB true false 4 cUnit a.Units))]⟩
def ke97 : KE := ⟨List Int, fun a => .own (.r 0 0) none 0 a.length a.length, fun a => [(.r 0 0, some (rowB true false 1 cI a))]⟩
def tnTerrain : TE := ⟨DTerrain, true, cTerrainN⟩
def tblN : Tbl := tblAt [(105, tnTerrain), (104, tnTerrain)]
def T : Hn := { t := tbl, row := fun f id => match id with | .v t => rowAt rowTab f t | .h t k => (rowAt rowTab f (t + 100000 * (k + 1))).or (rowAt rowTab f t) | .r t k => (rowAt rowTab f (t + 100000 * (k + 1))).or (rowAt rowTab f t) | .l i => rowAt rowTab f i, n := tblN, cap := capAt [(64, [some 31]), (101, [some 9]), (103, [some 9])], kept := fun f _ => bif Nat.beq f 40 then [ke40] else bif Nat.beq f 58 then [kl58, ke58] else bif Nat.beq f 69 then [ke69] else bif Nat.beq f 78 then [ke78] else bif Nat.beq f 79 then [ke79] else bif Nat.beq f 92 then [ke92] else bif Nat.beq f 97 then [ke97] else [] }
def hintAt : List ((Nat × Nat) × List (Nat × Option Nat)) → Nat → Nat → List (Nat × Option Nat)
  | [], _, _ => []
  | (a, h) :: r, f, i => bif Nat.beq a.1 f && Nat.beq a.2 i then h else hintAt r f i
def hints : List ((Nat × Nat) × List (Nat × Option Nat)) := [((5, 5), [(3, none), (4, none), (5, none), (11, none), (12, none), (35, none), (36, none), (37, none)]), ((6, 5), [(3, none), (4, none), (5, none), (11, none), (12, none), (44, none), (45, none), (46, none)]), ((16, 8), [(0, none), (2, none), (3, none), (4, none), (5, none), (6, none), (7, none), (29, none), (30, none)]), ((32, 6), [(0, none), (3, none), (4, none), (5, none), (6, some 1), (7, none)]), ((32, 10), [(0, none), (4, none), (5, none), (31, none), (32, none), (33, none), (1005000, some 2)]), ((34, 4), [(2, none), (3, none), (24, none), (25, none), (26, none)]), ((36, 4), [(2, none), (3, none), (29, none), (30, none), (31, none)]), ((37, 2), [(1, none), (8, none), (9, none), (10, none)]), ((41, 4), [(2, none), (3, none), (34, none), (35, none), (36, none)]), ((41, 10), [(2, none), (3, none), (46, none), (47, none), (48, none)]), ((58, 2), [(0, none), (1, none), (5, none)]), ((61, 4), [(1, none), (20, none), (21, none), (22, none)]), ((61, 10), [(1, none), (44, none), (45, none), (46, none)]), ((62, 4), [(1, none), (31, none), (32, none), (33, none)]), ((62, 10), [(1, none), (45, none), (46, none), (47, none)]), ((62, 15), [(1, none), (45, none), (46, none), (47, none), (54, none), (55, none), (56, none)]), ((66, 4), [(1, none), (20, none), (21, none), (22, none)]), ((66, 10), [(1, none), (69, none), (70, none), (71, none)]), ((68, 2), [(1, none), (2, none), (9, none), (10, none), (11, none)]), ((69, 17), [(0, none), (4, none), (5, none), (1005002, some 4)]), ((71, 3), [(1, none), (2, none), (7, some 1), (11, none), (12, none), (13, none)]), ((73, 5), [(2, none), (5, none), (31, none), (32, none), (33, none)]), ((75, 2), [(2, none), (3, none), (4, none), (12, none), (13, none), (14, none)]), ((76, 2), [(1, none), (8, none), (9, none), (10, none)]), ((78, 5), [(0, none), (2, none), (4, none), (5, none), (6, none), (1004000, some 1005)]), ((78, 10), [(0, none), (2, none), (4, none), (5, none), (6, none), (7, none), (94, none), (95, none), (1007001, some 1)]), ((79, 3), [(0, none), (1, none), (4, none), (5, none), (6, none), (1005002, some 1)]), ((85, 2), [(0, none), (3, none)]), ((87, 2), [(0, none), (1, none), (7, none), (8, none)]), ((88, 2), [(0, none), (3, none)]), ((89, 2), [(1, none), (7, none), (8, none), (9, none)]), ((90, 2), [(1, none), (7, none), (8, none), (9, none)]), ((91, 2), [(1, none), (2, none), (7, none), (8, none), (9, none)]), ((92, 3), [(0, none), (3, none), (4, none), (5, none), (6, none), (1005002, some 4)]), ((95, 4), [(2, none), (3, none), (4, none), (30, none)]), ((96, 3), [(2, none), (3, none), (4, none), (5, none), (9, some 1), (13, none), (14, none), (15, none)]), ((97, 3), [(0, none), (3, none), (5, some 1), (6, none)]), ((98, 2), [(0, none), (3, none)]), ((100, 2), [(0, none), (1, none), (7, none), (8, none)]), ((102, 2), [(0, none), (1, none), (7, none), (8, none)]), ((106, 2), [(0, none), (1, none), (2, none), (9, none), (10, none), (11, none)]), ((112, 5), [(3, none), (4, none), (9, none), (10, none)]), ((122, 2), [(0, none), (1, none), (7, none), (8, none)]), ((123, 2), [(1, none), (7, none), (8, none), (9, none)]), ((40, 1000000), [(0, some 5), (1, some 6), (9, some 1), (10, some 1), (11, some 1), (102, some 4)]), ((58, 1000000), [(0, some 1)]), ((58, 1000001), [(0, none)]), ((69, 1000000), [(2, some 4)]), ((69, 1000001), [(0, none)]), ((78, 1000000), [(0, some 1005), (1, some 6)]), ((79, 1000000), [(2, some 1), (3, some 1), (4, some 1)]), ((79, 1000001), [(0, none)]), ((92, 1000000), [(2, some 4)]), ((92, 1000001), [(0, none)]), ((97, 1000000), [(0, some 1)]), ((97, 1000001), [(0, none)])]
variable [Inhabited Known]
noncomputable def G : Cfg := { kn := (default : Known).kn, P := Tryz.prog, glob := fun g => bif Nat.beq g 0 then some [I 1, I 0, I 1, I (-1), I 0, I (-1), I (-1), I 0, I (-1), I 1, I 0, I 1] else none, lend := fun f i => (Nat.beq f 58 && Nat.beq i 0), keep := fun f => Nat.beq f 58 || Nat.beq f 97 || Nat.beq f 79 || Nat.beq f 78 || Nat.beq f 92 || Nat.beq f 69 || Nat.beq f 40, inl := fun f => Nat.beq f 78 || Nat.beq f 56, hint := hintAt hints }
end Go.Ev
/-
  LEMMAS on the program's data: cells are told apart, of one number; slice types; written by a program (types.py).
-/
namespace Go.Ev
open Go Go.Proofs
set_option linter.unusedSimpArgs false
theorem byte_inj (a b : UInt8) : ((a.toNat : Int) = (b.toNat : Int)) ↔ a = b := ⟨fun h => UInt8.toNat_inj.1 (by omega), fun h => h ▸ rfl⟩
theorem cY_eq (a b : UInt8) : cY a = cY b ↔ a = b := by simp [cY, byte_inj]
attribute [simp] cY_eq
theorem ok_cY : COk cY 1 := ⟨fun _ => rfl, fun a b h => (cY_eq a b).1 h⟩
@[simp] theorem rw_cY {fr nest : Bool} {l m : List UInt8} : rowB fr nest 1 cY l = rowB fr nest 1 cY m ↔ l = m := rowB_eq ok_cY (by decide)
@[simp] theorem slc_cY (l m : List UInt8) : slc cY l = slc cY m ↔ l = m := slc_eq ok_cY
theorem cLY_eq (a b : List UInt8) : cLY a = cLY b ↔ a = b := by simp [cLY, byte_inj]
attribute [simp] cLY_eq
theorem ok_cLY : COk cLY 1 := ⟨fun _ => rfl, fun a b h => (cLY_eq a b).1 h⟩
@[simp] theorem rw_cLY {fr nest : Bool} {l m : List (List UInt8)} : rowB fr nest 1 cLY l = rowB fr nest 1 cLY m ↔ l = m := rowB_eq ok_cLY (by decide)
@[simp] theorem slc_cLY (l m : List (List UInt8)) : slc cLY l = slc cLY m ↔ l = m := slc_eq ok_cLY
theorem cB_eq (a b : Bool) : cB a = cB b ↔ a = b := by simp [cB, byte_inj]
attribute [simp] cB_eq
theorem ok_cB : COk cB 1 := ⟨fun _ => rfl, fun a b h => (cB_eq a b).1 h⟩
@[simp] theorem rw_cB {fr nest : Bool} {l m : List Bool} : rowB fr nest 1 cB l = rowB fr nest 1 cB m ↔ l = m := rowB_eq ok_cB (by decide)
@[simp] theorem slc_cB (l m : List Bool) : slc cB l = slc cB m ↔ l = m := slc_eq ok_cB
theorem cI_eq (a b : Int) : cI a = cI b ↔ a = b := by simp [cI, byte_inj]
attribute [simp] cI_eq
theorem ok_cI : COk cI 1 := ⟨fun _ => rfl, fun a b h => (cI_eq a b).1 h⟩
@[simp] theorem rw_cI {fr nest : Bool} {l m : List Int} : rowB fr nest 1 cI l = rowB fr nest 1 cI m ↔ l = m := rowB_eq ok_cI (by decide)
@[simp] theorem slc_cI (l m : List Int) : slc cI l = slc cI m ↔ l = m := slc_eq ok_cI
theorem cS_eq (a b : ByteArray) : cS a = cS b ↔ a = b := by simp [cS, byte_inj]
attribute [simp] cS_eq
theorem ok_cS : COk cS 1 := ⟨fun _ => rfl, fun a b h => (cS_eq a b).1 h⟩
@[simp] theorem rw_cS {fr nest : Bool} {l m : List ByteArray} : rowB fr nest 1 cS l = rowB fr nest 1 cS m ↔ l = m := rowB_eq ok_cS (by decide)
@[simp] theorem slc_cS (l m : List ByteArray) : slc cS l = slc cS m ↔ l = m := slc_eq ok_cS
theorem cLI_eq (a b : List Int) : cLI a = cLI b ↔ a = b := by simp [cLI, byte_inj]
attribute [simp] cLI_eq
theorem ok_cLI : COk cLI 1 := ⟨fun _ => rfl, fun a b h => (cLI_eq a b).1 h⟩
@[simp] theorem rw_cLI {fr nest : Bool} {l m : List (List Int)} : rowB fr nest 1 cLI l = rowB fr nest 1 cLI m ↔ l = m := rowB_eq ok_cLI (by decide)
@[simp] theorem slc_cLI (l m : List (List Int)) : slc cLI l = slc cLI m ↔ l = m := slc_eq ok_cLI
theorem cTerrain_eq (a b : DTerrain) : cTerrain a = cTerrain b ↔ a = b := by
  obtain ⟨_, _, _, _, _⟩ := a
  obtain ⟨_, _, _, _, _⟩ := b
  simp [cTerrain, and_assoc, byte_inj]
attribute [simp] cTerrain_eq
theorem ok_cTerrain : COk cTerrain 5 := ⟨fun _ => rfl, fun a b h => (cTerrain_eq a b).1 h⟩
@[simp] theorem rw_cTerrain {fr nest : Bool} {l m : List DTerrain} : rowB fr nest 5 cTerrain l = rowB fr nest 5 cTerrain m ↔ l = m := rowB_eq ok_cTerrain (by decide)
@[simp] theorem slc_cTerrain (l m : List DTerrain) : slc cTerrain l = slc cTerrain m ↔ l = m := slc_eq ok_cTerrain
theorem cLTerrain_eq (a b : List DTerrain) : cLTerrain a = cLTerrain b ↔ a = b := by simp [cLTerrain, byte_inj]
attribute [simp] cLTerrain_eq
theorem ok_cLTerrain : COk cLTerrain 1 := ⟨fun _ => rfl, fun a b h => (cLTerrain_eq a b).1 h⟩
@[simp] theorem rw_cLTerrain {fr nest : Bool} {l m : List (List DTerrain)} : rowB fr nest 1 cLTerrain l = rowB fr nest 1 cLTerrain m ↔ l = m := rowB_eq ok_cLTerrain (by decide)
@[simp] theorem slc_cLTerrain (l m : List (List DTerrain)) : slc cLTerrain l = slc cLTerrain m ↔ l = m := slc_eq ok_cLTerrain
theorem cKind_eq (a b : DKind) : cKind a = cKind b ↔ a = b := by
  obtain ⟨_, _, _, _, _, _⟩ := a
  obtain ⟨_, _, _, _, _, _⟩ := b
  simp [cKind, and_assoc, byte_inj]
attribute [simp] cKind_eq
theorem ok_cKind : COk cKind 6 := ⟨fun _ => rfl, fun a b h => (cKind_eq a b).1 h⟩
@[simp] theorem rw_cKind {fr nest : Bool} {l m : List DKind} : rowB fr nest 6 cKind l = rowB fr nest 6 cKind m ↔ l = m := rowB_eq ok_cKind (by decide)
@[simp] theorem slc_cKind (l m : List DKind) : slc cKind l = slc cKind m ↔ l = m := slc_eq ok_cKind
theorem cLKind_eq (a b : List DKind) : cLKind a = cLKind b ↔ a = b := by simp [cLKind, byte_inj]
attribute [simp] cLKind_eq
theorem ok_cLKind : COk cLKind 1 := ⟨fun _ => rfl, fun a b h => (cLKind_eq a b).1 h⟩
@[simp] theorem rw_cLKind {fr nest : Bool} {l m : List (List DKind)} : rowB fr nest 1 cLKind l = rowB fr nest 1 cLKind m ↔ l = m := rowB_eq ok_cLKind (by decide)
@[simp] theorem slc_cLKind (l m : List (List DKind)) : slc cLKind l = slc cLKind m ↔ l = m := slc_eq ok_cLKind
theorem cRules_eq (a b : DRules) : cRules a = cRules b ↔ a = b := by
  obtain ⟨_, _, _, _, _, _, _⟩ := a
  obtain ⟨_, _, _, _, _, _, _⟩ := b
  simp [cRules, and_assoc, byte_inj]
attribute [simp] cRules_eq
theorem ok_cRules : COk cRules 7 := ⟨fun _ => rfl, fun a b h => (cRules_eq a b).1 h⟩
@[simp] theorem rw_cRules {fr nest : Bool} {l m : List DRules} : rowB fr nest 7 cRules l = rowB fr nest 7 cRules m ↔ l = m := rowB_eq ok_cRules (by decide)
@[simp] theorem slc_cRules (l m : List DRules) : slc cRules l = slc cRules m ↔ l = m := slc_eq ok_cRules
theorem cMap_eq (a b : DMap) : cMap a = cMap b ↔ a = b := by
  obtain ⟨_, _, _, _, _⟩ := a
  obtain ⟨_, _, _, _, _⟩ := b
  simp [cMap, and_assoc, byte_inj]
attribute [simp] cMap_eq
theorem ok_cMap : COk cMap 5 := ⟨fun _ => rfl, fun a b h => (cMap_eq a b).1 h⟩
@[simp] theorem rw_cMap {fr nest : Bool} {l m : List DMap} : rowB fr nest 5 cMap l = rowB fr nest 5 cMap m ↔ l = m := rowB_eq ok_cMap (by decide)
@[simp] theorem slc_cMap (l m : List DMap) : slc cMap l = slc cMap m ↔ l = m := slc_eq ok_cMap
theorem cBoard_eq (a b : DBoard) : cBoard a = cBoard b ↔ a = b := by
  obtain ⟨⟨_, _, _, _, _, _, _⟩, ⟨_, _, _, _, _⟩⟩ := a
  obtain ⟨⟨_, _, _, _, _, _, _⟩, ⟨_, _, _, _, _⟩⟩ := b
  simp [cBoard, and_assoc, byte_inj]
attribute [simp] cBoard_eq
theorem ok_cBoard : COk cBoard 12 := ⟨fun _ => rfl, fun a b h => (cBoard_eq a b).1 h⟩
@[simp] theorem rw_cBoard {fr nest : Bool} {l m : List DBoard} : rowB fr nest 12 cBoard l = rowB fr nest 12 cBoard m ↔ l = m := rowB_eq ok_cBoard (by decide)
@[simp] theorem slc_cBoard (l m : List DBoard) : slc cBoard l = slc cBoard m ↔ l = m := slc_eq ok_cBoard
theorem cUnit_eq (a b : DUnit) : cUnit a = cUnit b ↔ a = b := by
  obtain ⟨_, _, _, _⟩ := a
  obtain ⟨_, _, _, _⟩ := b
  simp [cUnit, and_assoc, byte_inj]
attribute [simp] cUnit_eq
theorem ok_cUnit : COk cUnit 4 := ⟨fun _ => rfl, fun a b h => (cUnit_eq a b).1 h⟩
@[simp] theorem rw_cUnit {fr nest : Bool} {l m : List DUnit} : rowB fr nest 4 cUnit l = rowB fr nest 4 cUnit m ↔ l = m := rowB_eq ok_cUnit (by decide)
@[simp] theorem slc_cUnit (l m : List DUnit) : slc cUnit l = slc cUnit m ↔ l = m := slc_eq ok_cUnit
theorem cLUnit_eq (a b : List DUnit) : cLUnit a = cLUnit b ↔ a = b := by simp [cLUnit, byte_inj]
attribute [simp] cLUnit_eq
theorem ok_cLUnit : COk cLUnit 1 := ⟨fun _ => rfl, fun a b h => (cLUnit_eq a b).1 h⟩
@[simp] theorem rw_cLUnit {fr nest : Bool} {l m : List (List DUnit)} : rowB fr nest 1 cLUnit l = rowB fr nest 1 cLUnit m ↔ l = m := rowB_eq ok_cLUnit (by decide)
@[simp] theorem slc_cLUnit (l m : List (List DUnit)) : slc cLUnit l = slc cLUnit m ↔ l = m := slc_eq ok_cLUnit
theorem cState_eq (a b : DState) : cState a = cState b ↔ a = b := by
  obtain ⟨_, _, _⟩ := a
  obtain ⟨_, _, _⟩ := b
  simp [cState, and_assoc, byte_inj]
attribute [simp] cState_eq
theorem ok_cState : COk cState 3 := ⟨fun _ => rfl, fun a b h => (cState_eq a b).1 h⟩
@[simp] theorem rw_cState {fr nest : Bool} {l m : List DState} : rowB fr nest 3 cState l = rowB fr nest 3 cState m ↔ l = m := rowB_eq ok_cState (by decide)
@[simp] theorem slc_cState (l m : List DState) : slc cState l = slc cState m ↔ l = m := slc_eq ok_cState
theorem cGoal_eq (a b : DGoal) : cGoal a = cGoal b ↔ a = b := by
  obtain ⟨_, _⟩ := a
  obtain ⟨_, _⟩ := b
  simp [cGoal, and_assoc, byte_inj]
attribute [simp] cGoal_eq
theorem ok_cGoal : COk cGoal 2 := ⟨fun _ => rfl, fun a b h => (cGoal_eq a b).1 h⟩
@[simp] theorem rw_cGoal {fr nest : Bool} {l m : List DGoal} : rowB fr nest 2 cGoal l = rowB fr nest 2 cGoal m ↔ l = m := rowB_eq ok_cGoal (by decide)
@[simp] theorem slc_cGoal (l m : List DGoal) : slc cGoal l = slc cGoal m ↔ l = m := slc_eq ok_cGoal
theorem cLGoal_eq (a b : List DGoal) : cLGoal a = cLGoal b ↔ a = b := by simp [cLGoal, byte_inj]
attribute [simp] cLGoal_eq
theorem ok_cLGoal : COk cLGoal 1 := ⟨fun _ => rfl, fun a b h => (cLGoal_eq a b).1 h⟩
@[simp] theorem rw_cLGoal {fr nest : Bool} {l m : List (List DGoal)} : rowB fr nest 1 cLGoal l = rowB fr nest 1 cLGoal m ↔ l = m := rowB_eq ok_cLGoal (by decide)
@[simp] theorem slc_cLGoal (l m : List (List DGoal)) : slc cLGoal l = slc cLGoal m ↔ l = m := slc_eq ok_cLGoal
theorem cConditions_eq (a b : DConditions) : cConditions a = cConditions b ↔ a = b := by
  obtain ⟨_, _, _⟩ := a
  obtain ⟨_, _, _⟩ := b
  simp [cConditions, and_assoc, byte_inj]
attribute [simp] cConditions_eq
theorem ok_cConditions : COk cConditions 3 := ⟨fun _ => rfl, fun a b h => (cConditions_eq a b).1 h⟩
@[simp] theorem rw_cConditions {fr nest : Bool} {l m : List DConditions} : rowB fr nest 3 cConditions l = rowB fr nest 3 cConditions m ↔ l = m := rowB_eq ok_cConditions (by decide)
@[simp] theorem slc_cConditions (l m : List DConditions) : slc cConditions l = slc cConditions m ↔ l = m := slc_eq ok_cConditions
theorem cHex_eq (a b : DHex) : cHex a = cHex b ↔ a = b := by
  obtain ⟨_, _⟩ := a
  obtain ⟨_, _⟩ := b
  simp [cHex, and_assoc, byte_inj]
attribute [simp] cHex_eq
theorem ok_cHex : COk cHex 2 := ⟨fun _ => rfl, fun a b h => (cHex_eq a b).1 h⟩
@[simp] theorem rw_cHex {fr nest : Bool} {l m : List DHex} : rowB fr nest 2 cHex l = rowB fr nest 2 cHex m ↔ l = m := rowB_eq ok_cHex (by decide)
@[simp] theorem slc_cHex (l m : List DHex) : slc cHex l = slc cHex m ↔ l = m := slc_eq ok_cHex
theorem cU64_eq (a b : Int) : cU64 a = cU64 b ↔ a = b := by simp [cU64, byte_inj]
attribute [simp] cU64_eq
theorem ok_cU64 : COk cU64 1 := ⟨fun _ => rfl, fun a b h => (cU64_eq a b).1 h⟩
@[simp] theorem rw_cU64 {fr nest : Bool} {l m : List Int} : rowB fr nest 1 cU64 l = rowB fr nest 1 cU64 m ↔ l = m := rowB_eq ok_cU64 (by decide)
@[simp] theorem slc_cU64 (l m : List Int) : slc cU64 l = slc cU64 m ↔ l = m := slc_eq ok_cU64
theorem cl1Cur_eq (a b : Dl1Cur) : cl1Cur a = cl1Cur b ↔ a = b := by
  obtain ⟨_, _, _⟩ := a
  obtain ⟨_, _, _⟩ := b
  simp [cl1Cur, and_assoc, byte_inj]
attribute [simp] cl1Cur_eq
theorem ok_cl1Cur : COk cl1Cur 3 := ⟨fun _ => rfl, fun a b h => (cl1Cur_eq a b).1 h⟩
@[simp] theorem rw_cl1Cur {fr nest : Bool} {l m : List Dl1Cur} : rowB fr nest 3 cl1Cur l = rowB fr nest 3 cl1Cur m ↔ l = m := rowB_eq ok_cl1Cur (by decide)
@[simp] theorem slc_cl1Cur (l m : List Dl1Cur) : slc cl1Cur l = slc cl1Cur m ↔ l = m := slc_eq ok_cl1Cur
theorem cLS_eq (a b : List ByteArray) : cLS a = cLS b ↔ a = b := by simp [cLS, byte_inj]
attribute [simp] cLS_eq
theorem ok_cLS : COk cLS 1 := ⟨fun _ => rfl, fun a b h => (cLS_eq a b).1 h⟩
@[simp] theorem rw_cLS {fr nest : Bool} {l m : List (List ByteArray)} : rowB fr nest 1 cLS l = rowB fr nest 1 cLS m ↔ l = m := rowB_eq ok_cLS (by decide)
@[simp] theorem slc_cLS (l m : List (List ByteArray)) : slc cLS l = slc cLS m ↔ l = m := slc_eq ok_cLS
theorem cLLI_eq (a b : List (List Int)) : cLLI a = cLLI b ↔ a = b := by simp [cLLI, byte_inj]
attribute [simp] cLLI_eq
theorem ok_cLLI : COk cLLI 1 := ⟨fun _ => rfl, fun a b h => (cLLI_eq a b).1 h⟩
@[simp] theorem rw_cLLI {fr nest : Bool} {l m : List (List (List Int))} : rowB fr nest 1 cLLI l = rowB fr nest 1 cLLI m ↔ l = m := rowB_eq ok_cLLI (by decide)
@[simp] theorem slc_cLLI (l m : List (List (List Int))) : slc cLLI l = slc cLLI m ↔ l = m := slc_eq ok_cLLI
theorem cA2I_eq (a b : A2I) : cA2I a = cA2I b ↔ a = b := by
  obtain ⟨_, _⟩ := a
  obtain ⟨_, _⟩ := b
  simp [cA2I, and_assoc, byte_inj]
attribute [simp] cA2I_eq
theorem ok_cA2I : COk cA2I 2 := ⟨fun _ => rfl, fun a b h => (cA2I_eq a b).1 h⟩
@[simp] theorem rw_cA2I {fr nest : Bool} {l m : List A2I} : rowB fr nest 2 cA2I l = rowB fr nest 2 cA2I m ↔ l = m := rowB_eq ok_cA2I (by decide)
@[simp] theorem slc_cA2I (l m : List A2I) : slc cA2I l = slc cA2I m ↔ l = m := slc_eq ok_cA2I
theorem cLA2I_eq (a b : List A2I) : cLA2I a = cLA2I b ↔ a = b := by simp [cLA2I, byte_inj]
attribute [simp] cLA2I_eq
theorem ok_cLA2I : COk cLA2I 1 := ⟨fun _ => rfl, fun a b h => (cLA2I_eq a b).1 h⟩
@[simp] theorem rw_cLA2I {fr nest : Bool} {l m : List (List A2I)} : rowB fr nest 1 cLA2I l = rowB fr nest 1 cLA2I m ↔ l = m := rowB_eq ok_cLA2I (by decide)
@[simp] theorem slc_cLA2I (l m : List (List A2I)) : slc cLA2I l = slc cLA2I m ↔ l = m := slc_eq ok_cLA2I
theorem cA6Hex_eq (a b : A6Hex) : cA6Hex a = cA6Hex b ↔ a = b := by
  obtain ⟨⟨_, _⟩, ⟨_, _⟩, ⟨_, _⟩, ⟨_, _⟩, ⟨_, _⟩, ⟨_, _⟩⟩ := a
  obtain ⟨⟨_, _⟩, ⟨_, _⟩, ⟨_, _⟩, ⟨_, _⟩, ⟨_, _⟩, ⟨_, _⟩⟩ := b
  simp [cA6Hex, and_assoc, byte_inj]
attribute [simp] cA6Hex_eq
theorem ok_cA6Hex : COk cA6Hex 12 := ⟨fun _ => rfl, fun a b h => (cA6Hex_eq a b).1 h⟩
@[simp] theorem rw_cA6Hex {fr nest : Bool} {l m : List A6Hex} : rowB fr nest 12 cA6Hex l = rowB fr nest 12 cA6Hex m ↔ l = m := rowB_eq ok_cA6Hex (by decide)
@[simp] theorem slc_cA6Hex (l m : List A6Hex) : slc cA6Hex l = slc cA6Hex m ↔ l = m := slc_eq ok_cA6Hex
theorem cTerrainN_eq (a b : DTerrain) : cTerrainN a = cTerrainN b ↔ a = b := by
  obtain ⟨_, _, _, _, _⟩ := a
  obtain ⟨_, _, _, _, _⟩ := b
  simp only [cTerrainN, List.cons.injEq, AV.sc.injEq, Value.string.injEq, Value.int.injEq, Value.bool.injEq, nst_eq ok_cI, true_and, and_true, DTerrain.mk.injEq]
attribute [simp] cTerrainN_eq
theorem ok_cTerrainN : COk cTerrainN 5 := ⟨fun _ => rfl, fun a b h => (cTerrainN_eq a b).1 h⟩
@[simp] theorem rw_cTerrainN {fr nest : Bool} {l m : List DTerrain} : rowB fr nest 5 cTerrainN l = rowB fr nest 5 cTerrainN m ↔ l = m := rowB_eq ok_cTerrainN (by decide)
theorem sl_cY : SlOk Tryz.prog 22 cY := ⟨5, 1, by kernel_rfl, by kernel_rfl, ok_cY⟩
theorem rt_cY : RowT Tryz.prog 22 cY 1 1 := ⟨ok_cY, by decide, fun _ => rfl, ⟨5, [.sc (.int .u8 0)], by kernel_rfl, by kernel_rfl, by kernel_rfl, by kernel_rfl, rfl⟩⟩
theorem ag_cY : szT Tryz.prog 5 = some 1 ∧ aggT Tryz.prog 5 = some false := ⟨by kernel_rfl, by kernel_rfl⟩
theorem sl_cTerrain : SlOk Tryz.prog 23 cTerrain := ⟨105, 5, by kernel_rfl, by kernel_rfl, ok_cTerrain⟩
theorem rt_cTerrain : RowT Tryz.prog 23 cTerrain 5 64 := ⟨ok_cTerrain, by decide, fun _ => rfl, ⟨105, [S ByteArray.empty, .emp, I 0, I 0, B false], by kernel_rfl, by kernel_rfl, by kernel_rfl, by kernel_rfl, rfl⟩⟩
theorem ag_cTerrain : szT Tryz.prog 105 = some 5 ∧ aggT Tryz.prog 105 = some true := ⟨by kernel_rfl, by kernel_rfl⟩
theorem str_ok : isStrT Tryz.prog 9 = true := by kernel_rfl
theorem sl_cI : SlOk Tryz.prog 27 cI := ⟨3, 1, by kernel_rfl, by kernel_rfl, ok_cI⟩
theorem rt_cI : RowT Tryz.prog 27 cI 1 8 := ⟨ok_cI, by decide, fun _ => rfl, ⟨3, [I 0], by kernel_rfl, by kernel_rfl, by kernel_rfl, by kernel_rfl, rfl⟩⟩
theorem ag_cI : szT Tryz.prog 3 = some 1 ∧ aggT Tryz.prog 3 = some false := ⟨by kernel_rfl, by kernel_rfl⟩
theorem sl_cKind : SlOk Tryz.prog 24 cKind := ⟨109, 6, by kernel_rfl, by kernel_rfl, ok_cKind⟩
theorem rt_cKind : RowT Tryz.prog 24 cKind 6 56 := ⟨ok_cKind, by decide, fun _ => rfl, ⟨109, [S ByteArray.empty, I 0, I 0, I 0, B false, I 0], by kernel_rfl, by kernel_rfl, by kernel_rfl, by kernel_rfl, rfl⟩⟩
theorem ag_cKind : szT Tryz.prog 109 = some 6 ∧ aggT Tryz.prog 109 = some true := ⟨by kernel_rfl, by kernel_rfl⟩
theorem sl_cUnit : SlOk Tryz.prog 32 cUnit := ⟨55, 4, by kernel_rfl, by kernel_rfl, ok_cUnit⟩
theorem rt_cUnit : RowT Tryz.prog 32 cUnit 4 32 := ⟨ok_cUnit, by decide, fun _ => rfl, ⟨55, [I 0, I 0, I 0, I 0], by kernel_rfl, by kernel_rfl, by kernel_rfl, by kernel_rfl, rfl⟩⟩
theorem ag_cUnit : szT Tryz.prog 55 = some 4 ∧ aggT Tryz.prog 55 = some true := ⟨by kernel_rfl, by kernel_rfl⟩
theorem sl_cGoal : SlOk Tryz.prog 35 cGoal := ⟨57, 2, by kernel_rfl, by kernel_rfl, ok_cGoal⟩
theorem rt_cGoal : RowT Tryz.prog 35 cGoal 2 16 := ⟨ok_cGoal, by decide, fun _ => rfl, ⟨57, [I 0, I 0], by kernel_rfl, by kernel_rfl, by kernel_rfl, by kernel_rfl, rfl⟩⟩
theorem ag_cGoal : szT Tryz.prog 57 = some 2 ∧ aggT Tryz.prog 57 = some true := ⟨by kernel_rfl, by kernel_rfl⟩
theorem sl_cS : SlOk Tryz.prog 107 cS := ⟨9, 1, by kernel_rfl, by kernel_rfl, ok_cS⟩
theorem rt_cS : RowT Tryz.prog 107 cS 1 16 := ⟨ok_cS, by decide, fun _ => rfl, ⟨9, [S ByteArray.empty], by kernel_rfl, by kernel_rfl, by kernel_rfl, by kernel_rfl, rfl⟩⟩
theorem ag_cS : szT Tryz.prog 9 = some 1 ∧ aggT Tryz.prog 9 = some false := ⟨by kernel_rfl, by kernel_rfl⟩
theorem sl_cLI : SlOk Tryz.prog 114 cLI := ⟨27, 1, by kernel_rfl, by kernel_rfl, ok_cLI⟩
theorem rt_cLI : RowT Tryz.prog 114 cLI 1 24 := ⟨ok_cLI, by decide, fun _ => rfl, ⟨27, [.emp], by kernel_rfl, by kernel_rfl, by kernel_rfl, by kernel_rfl, rfl⟩⟩
theorem ag_cLI : szT Tryz.prog 27 = some 1 ∧ aggT Tryz.prog 27 = some false := ⟨by kernel_rfl, by kernel_rfl⟩
theorem sl_cA2I : SlOk Tryz.prog 121 cA2I := ⟨122, 2, by kernel_rfl, by kernel_rfl, ok_cA2I⟩
theorem rt_cA2I : RowT Tryz.prog 121 cA2I 2 16 := ⟨ok_cA2I, by decide, fun _ => rfl, ⟨122, [I 0, I 0], by kernel_rfl, by kernel_rfl, by kernel_rfl, by kernel_rfl, rfl⟩⟩
theorem ag_cA2I : szT Tryz.prog 122 = some 2 ∧ aggT Tryz.prog 122 = some true := ⟨by kernel_rfl, by kernel_rfl⟩
theorem ar_cA2I : arT Tryz.prog 122 = some (2, 3) ∧ szT Tryz.prog 3 = some 1 ∧ slT Tryz.prog 122 = none := ⟨by kernel_rfl, by kernel_rfl, by kernel_rfl⟩
theorem ar_cA6Hex : arT Tryz.prog 131 = some (6, 51) ∧ szT Tryz.prog 51 = some 2 ∧ slT Tryz.prog 131 = none := ⟨by kernel_rfl, by kernel_rfl, by kernel_rfl⟩
end Go.Ev
