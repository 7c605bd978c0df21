/-
 Ed: one of the texts behind a proof of laws.FnRetreats: the program's types as data
 Its conditions: none of its own.
-/
import Derived.Test.YtebfdfiffaolhaaGreatDoorEc
import Derived.Test.YtebfdfiffaolhaaGreatDoorProg
import Derived.KernelRfl
set_option maxRecDepth 100000
set_option linter.unusedVariables false
set_option linter.unusedSectionVars false
set_option linter.unusedSimpArgs false
set_option linter.unnecessarySimpa false
namespace Go.Ev
open Go Go.Proofs
abbrev I (n : Int) : AV := .sc (.int .i64 n)
abbrev K (k : IntKind) (n : Int) : AV := .sc (.int k n)
abbrev B (b : Bool) : AV := .sc (.bool b)
abbrev S (s : ByteArray) : AV := .sc (.string s)
def cI (n : Int) : List AV := [I n]
def cU64 (n : Int) : List AV := [K .u64 n]
def cI32 (n : Int) : List AV := [K .i32 n]
def cU32 (n : Int) : List AV := [K .u32 n]
def cB (b : Bool) : List AV := [B b]
def cS (s : ByteArray) : List AV := [S s]
structure KSl where
 A : Option Addr
 n : Nat
 k : Nat
def Kn (x : KSl) : AV := .sc (.slice x.A x.n x.k)
@[simp] theorem Kn_eq (a b : KSl) : Kn a = Kn b ↔ a = b := by
 obtain ⟨_, _, _⟩ := a
 obtain ⟨_, _, _⟩ := b
 simp [Kn]
def cLY (l : List UInt8) : List AV := [slc cY l]
def cLI (l : List Int) : List AV := [slc cI l]
structure DTerrain where
 Name : ByteArray
 Cost : List Int
 Shift : Int
 Height : Int
 Blocks : Bool
def cTerrain (x : DTerrain) : List AV := [S x.Name, slc cI x.Cost, I x.Shift, I x.Height, B x.Blocks]
def cLTerrain (l : List DTerrain) : List AV := [slc cTerrain l]
structure DKind where
 Name : ByteArray
 Strength : Int
 Moves : Int
 Steps : Int
 Zone : Bool
 View : Int
def cKind (x : DKind) : List AV := [S x.Name, I x.Strength, I x.Moves, I x.Steps, B x.Zone, I x.View]
def cLKind (l : List DKind) : List AV := [slc cKind l]
structure DRules where
 Terrains : List DTerrain
 Kinds : List DKind
 Stack : Int
 River : Int
 Road : Int
 Supply : Int
 Turns : Int
def cRules (x : DRules) : List AV := [slc cTerrain x.Terrains, slc cKind x.Kinds, I x.Stack, I x.River, I x.Road, I x.Supply, I x.Turns]
structure DMap where
 Width : Int
 Height : Int
 Terrain : List Int
 Rivers : List Int
 Roads : List Int
def cMap (x : DMap) : List AV := [I x.Width, I x.Height, slc cI x.Terrain, slc cI x.Rivers, slc cI x.Roads]
structure DBoard where
 Rules : DRules
 Map : DMap
def cBoard (x : DBoard) : List AV := [slc cTerrain x.Rules.Terrains, slc cKind x.Rules.Kinds, I x.Rules.Stack, I x.Rules.River, I x.Rules.Road, I x.Rules.Supply, I x.Rules.Turns, I x.Map.Width, I x.Map.Height, slc cI x.Map.Terrain, slc cI x.Map.Rivers, slc cI x.Map.Roads]
structure DUnit where
 Side : Int
 Kind : Int
 At : Int
 Steps : Int
def cUnit (x : DUnit) : List AV := [I x.Side, I x.Kind, I x.At, I x.Steps]
def cLUnit (l : List DUnit) : List AV := [slc cUnit l]
structure DState where
 Turn : Int
 Weather : Int
 Units : List DUnit
def cState (x : DState) : List AV := [I x.Turn, I x.Weather, slc cUnit x.Units]
structure Dl1Cur where
 code_ : KSl
 at_ : Int
 seed_ : Int
def cl1Cur (x : Dl1Cur) : List AV := [Kn x.code_, I x.at_, K .u64 x.seed_]
def cLLI (l : List (List Int)) : List AV := [slc cLI l]
structure A2I where
 a0 : Int
 a1 : Int
def cA2I (x : A2I) : List AV := [I x.a0, I x.a1]
def cLA2I (l : List A2I) : List AV := [slc cA2I l]
structure DHex where
 Q : Int
 R : Int
def cHex (x : DHex) : List AV := [I x.Q, I x.R]
structure DAttempt where
 Unit : Int
 From_ : Int
 To : Int
def cAttempt (x : DAttempt) : List AV := [I x.Unit, I x.From_, I x.To]
def cLAttempt (l : List DAttempt) : List AV := [slc cAttempt l]
def cLS (l : List ByteArray) : List AV := [slc cS l]
structure A6Hex where
 a0 : DHex
 a1 : DHex
 a2 : DHex
 a3 : DHex
 a4 : DHex
 a5 : DHex
def cA6Hex (x : A6Hex) : List AV := [I x.a0.Q, I x.a0.R, I x.a1.Q, I x.a1.R, I x.a2.Q, I x.a2.R, I x.a3.Q, I x.a3.R, I x.a4.Q, I x.a4.R, I x.a5.Q, I x.a5.R]
def tblAt : List (TypeId × TE) → TypeId → Option TE
 | [], _ => none
 | (a, e) :: r, t => bif Nat.beq a t then some e else tblAt r t
def tLY : TE := ⟨List UInt8, false, cLY⟩
def tY : TE := ⟨UInt8, false, cY⟩
def tB : TE := ⟨Bool, false, cB⟩
def tBoard : TE := ⟨DBoard, true, cBoard⟩
def tRules : TE := ⟨DRules, true, cRules⟩
def tLTerrain : TE := ⟨List DTerrain, false, cLTerrain⟩
def tTerrain : TE := ⟨DTerrain, true, cTerrain⟩
def tS : TE := ⟨ByteArray, false, cS⟩
def tLI : TE := ⟨List Int, false, cLI⟩
def tI : TE := ⟨Int, false, cI⟩
def tLKind : TE := ⟨List DKind, false, cLKind⟩
def tKind : TE := ⟨DKind, true, cKind⟩
def tMap : TE := ⟨DMap, true, cMap⟩
def tState : TE := ⟨DState, true, cState⟩
def tLUnit : TE := ⟨List DUnit, false, cLUnit⟩
def tUnit : TE := ⟨DUnit, true, cUnit⟩
def tl1Cur : TE := ⟨Dl1Cur, true, cl1Cur⟩
def tU64 : TE := ⟨Int, false, cU64⟩
def tLLI : TE := ⟨List (List Int), false, cLLI⟩
def tLA2I : TE := ⟨List A2I, false, cLA2I⟩
def tA2I : TE := ⟨A2I, true, cA2I⟩
def tHex : TE := ⟨DHex, true, cHex⟩
def tLAttempt : TE := ⟨List DAttempt, false, cLAttempt⟩
def tAttempt : TE := ⟨DAttempt, true, cAttempt⟩
def tLS : TE := ⟨List ByteArray, false, cLS⟩
def tA6Hex : TE := ⟨A6Hex, true, cA6Hex⟩
def tbl : Tbl := tblAt [(22, tLY), (5, tY), (4, tB), (32, tBoard), (31, tBoard), (27, tRules), (26, tRules), (24, tLTerrain), (115, tTerrain), (114, tTerrain), (9, tS), (28, tLI), (3, tI), (25, tLKind), (119, tKind), (118, tKind), (30, tMap), (29, tMap), (35, tState), (34, tState), (33, tLUnit), (65, tUnit), (64, tUnit), (55, tl1Cur), (54, tl1Cur), (53, tU64), (60, tLLI), (88, tLA2I), (91, tA2I), (99, tHex), (98, tHex), (108, tLAttempt), (110, tAttempt), (109, tAttempt), (139, tLS), (103, tA6Hex)]
def rowAt : List ((Nat × Nat) × Nat) → Nat → Nat → Option TypeId
 | [], _, _ => none
 | (a, h) :: r, f, i => bif Nat.beq a.1 f && Nat.beq a.2 i then some h else rowAt r f i
def rowTab : List ((Nat × Nat) × Nat) := [((3, 0), 5), ((3, 1), 5), ((3, 9), 3), ((3, 11), 3), ((3, 27), 3), ((3, 35), 5), ((3, 36), 5), ((3, 39), 5), ((3, 51), 3), ((3, 59), 3), ((3, 81), 3), ((3, 82), 3), ((3, 159), 5), ((3, 163), 3), ((3, 168), 3), ((3, 177), 3), ((3, 200005), 115), ((3, 300005), 119), ((3, 400005), 3), ((3, 500005), 3), ((3, 600005), 3), ((3, 200006), 65), ((3, 200017), 65), ((3, 200020), 65), ((3, 200025), 115), ((3, 300025), 119), ((3, 400025), 3), ((3, 500025), 3), ((3, 600025), 3), ((3, 200026), 65), ((3, 200029), 65), ((3, 200032), 65), ((4, 0), 5), ((4, 1), 5), ((4, 5), 5), ((4, 9), 5), ((4, 11), 5), ((5, 0), 5), ((5, 10), 5), ((5, 23), 3), ((5, 200002), 115), ((5, 300002), 119), ((5, 400002), 3), ((5, 500002), 3), ((5, 600002), 3), ((5, 200003), 65), ((5, 200012), 5), ((5, 200007), 115), ((5, 300007), 119), ((5, 400007), 3), ((5, 500007), 3), ((5, 600007), 3), ((5, 200008), 65), ((6, 8), 3), ((6, 10), 28), ((6, 21), 28), ((6, 22), 28), ((6, 25), 28), ((6, 27), 3), ((6, 200004), 115), ((6, 300004), 119), ((6, 400004), 3), ((6, 500004), 3), ((6, 600004), 3), ((6, 200005), 65), ((7, 8), 3), ((7, 10), 28), ((7, 21), 28), ((7, 22), 28), ((7, 25), 28), ((7, 27), 3), ((7, 200004), 115), ((7, 300004), 119), ((7, 400004), 3), ((7, 500004), 3), ((7, 600004), 3), ((7, 200005), 65), ((8, 20), 28), ((8, 200004), 115), ((8, 300004), 119), ((8, 400004), 3), ((8, 500004), 3), ((8, 600004), 3), ((8, 200005), 65), ((9, 20), 28), ((9, 200004), 115), ((9, 300004), 119), ((9, 400004), 3), ((9, 500004), 3), ((9, 600004), 3), ((9, 200005), 65), ((10, 0), 3), ((10, 1), 3), ((10, 6), 3), ((10, 8), 3), ((10, 11), 3), ((10, 16), 3), ((10, 20), 3), ((11, 200004), 115), ((11, 300004), 119), ((11, 400004), 3), ((11, 500004), 3), ((11, 600004), 3), ((11, 200005), 65), ((11, 200008), 65), ((11, 200011), 65), ((12, 200004), 115), ((12, 300004), 119), ((12, 400004), 3), ((12, 500004), 3), ((12, 600004), 3), ((12, 200005), 65), ((12, 200008), 65), ((12, 200011), 65), ((13, 20), 65), ((13, 23), 65), ((13, 28), 65), ((13, 34), 65), ((13, 39), 65), ((13, 200002), 65), ((13, 200003), 65), ((14, 200002), 115), ((14, 300002), 119), ((14, 400002), 3), ((14, 500002), 3), ((14, 600002), 3), ((14, 200003), 65), ((15, 0), 5), ((15, 4), 3), ((15, 10), 5), ((15, 23), 3), ((15, 25), 3), ((15, 200002), 115), ((15, 300002), 119), ((15, 400002), 3), ((15, 500002), 3), ((15, 600002), 3), ((15, 200003), 65), ((15, 200012), 5), ((15, 200007), 115), ((15, 300007), 119), ((15, 400007), 3), ((15, 500007), 3), ((15, 600007), 3), ((15, 200008), 65), ((16, 2), 3), ((16, 15), 3), ((16, 27), 3), ((16, 200004), 115), ((16, 300004), 119), ((16, 400004), 3), ((16, 500004), 3), ((16, 600004), 3), ((16, 200005), 65), ((16, 200008), 65), ((16, 200011), 65), ((17, 2), 3), ((17, 15), 3), ((17, 27), 3), ((17, 200004), 115), ((17, 300004), 119), ((17, 400004), 3), ((17, 500004), 3), ((17, 600004), 3), ((17, 200005), 65), ((17, 200008), 65), ((17, 200011), 65), ((18, 16), 65), ((18, 21), 65), ((18, 26), 65), ((18, 38), 65), ((18, 47), 65), ((18, 49), 3), ((18, 200002), 115), ((18, 300002), 119), ((18, 400002), 3), ((18, 500002), 3), ((18, 600002), 3), ((18, 200003), 65), ((18, 200005), 115), ((18, 300005), 119), ((18, 400005), 3), ((18, 500005), 3), ((18, 600005), 3), ((18, 200006), 65), ((18, 100055), 65), ((19, 1), 3), ((19, 5), 3), ((19, 7), 3), ((20, 200004), 115), ((20, 300004), 119), ((20, 400004), 3), ((20, 500004), 3), ((20, 600004), 3), ((20, 200005), 65), ((21, 8), 28), ((21, 13), 65), ((21, 19), 3), ((21, 20), 28), ((21, 200004), 115), ((21, 300004), 119), ((21, 400004), 3), ((21, 500004), 3), ((21, 600004), 3), ((21, 200005), 65), ((21, 100020), 28), ((22, 200004), 115), ((22, 300004), 119), ((22, 400004), 3), ((22, 500004), 3), ((22, 600004), 3), ((22, 200005), 65), ((23, 8), 28), ((23, 13), 65), ((23, 19), 28), ((23, 200004), 115), ((23, 300004), 119), ((23, 400004), 3), ((23, 500004), 3), ((23, 600004), 3), ((23, 200005), 65), ((24, 11), 28), ((24, 12), 3), ((24, 20), 28), ((24, 21), 28), ((24, 32), 65), ((24, 37), 28), ((24, 39), 3), ((24, 41), 3), ((24, 44), 65), ((24, 46), 3), ((24, 47), 3), ((24, 200004), 115), ((24, 300004), 119), ((24, 400004), 3), ((24, 500004), 3), ((24, 600004), 3), ((24, 200005), 65), ((24, 200008), 65), ((24, 100015), 65), ((24, 200010), 65), ((25, 11), 28), ((25, 20), 28), ((25, 21), 28), ((25, 28), 28), ((25, 30), 3), ((25, 37), 65), ((25, 42), 65), ((25, 200004), 115), ((25, 300004), 119), ((25, 400004), 3), ((25, 500004), 3), ((25, 600004), 3), ((25, 200005), 65), ((25, 200008), 65), ((25, 100015), 65), ((25, 200010), 65), ((26, 15), 3), ((26, 200001), 115), ((26, 300001), 119), ((26, 400001), 3), ((26, 500001), 3), ((26, 600001), 3), ((27, 5), 91), ((27, 23), 65), ((27, 29), 91), ((27, 31), 65), ((27, 44), 91), ((27, 55), 91), ((27, 66), 91), ((27, 200002), 115), ((27, 300002), 119), ((27, 400002), 3), ((27, 500002), 3), ((27, 600002), 3), ((27, 200003), 65), ((28, 4), 3), ((28, 5), 3), ((28, 9), 65), ((28, 23), 3), ((28, 25), 3), ((28, 26), 3), ((28, 30), 3), ((28, 32), 65), ((28, 34), 3), ((28, 35), 3), ((28, 36), 3), ((28, 200003), 65), ((29, 2), 3), ((29, 12), 3), ((29, 16), 3), ((29, 200003), 115), ((29, 300003), 119), ((29, 400003), 3), ((29, 500003), 3), ((29, 600003), 3), ((29, 200004), 65), ((31, 2), 3), ((31, 18), 3), ((31, 200004), 115), ((31, 300004), 119), ((31, 400004), 3), ((31, 500004), 3), ((31, 600004), 3), ((31, 200005), 65), ((31, 200008), 65), ((31, 100017), 65), ((31, 200010), 65), ((31, 200014), 65), ((32, 2), 3), ((32, 14), 3), ((32, 16), 65), ((32, 22), 3), ((32, 29), 65), ((32, 200003), 115), ((32, 300003), 119), ((32, 400003), 3), ((32, 500003), 3), ((32, 600003), 3), ((32, 200004), 65), ((34, 2), 3), ((34, 17), 3), ((34, 200004), 115), ((34, 300004), 119), ((34, 400004), 3), ((34, 500004), 3), ((34, 600004), 3), ((34, 200005), 65), ((34, 200008), 65), ((34, 100016), 65), ((34, 200013), 65), ((35, 18), 3), ((35, 31), 65), ((35, 38), 65), ((35, 47), 65), ((35, 48), 65), ((35, 55), 65), ((35, 57), 65), ((35, 200002), 115), ((35, 300002), 119), ((35, 400002), 3), ((35, 500002), 3), ((35, 600002), 3), ((35, 200003), 65), ((35, 200004), 115), ((35, 300004), 119), ((35, 400004), 3), ((35, 500004), 3), ((35, 600004), 3), ((35, 100023), 65), ((35, 200005), 65), ((37, 200002), 115), ((37, 300002), 119), ((37, 400002), 3), ((37, 500002), 3), ((37, 600002), 3), ((37, 200003), 65), ((37, 200004), 115), ((37, 300004), 119), ((37, 400004), 3), ((37, 500004), 3), ((37, 600004), 3), ((37, 100010), 65), ((38, 13), 65), ((38, 200003), 115), ((38, 300003), 119), ((38, 400003), 3), ((38, 500003), 3), ((38, 600003), 3), ((38, 200004), 65), ((39, 5), 3), ((39, 6), 28), ((39, 14), 28), ((39, 21), 65), ((39, 32), 65), ((39, 40), 28), ((39, 41), 3), ((39, 42), 3), ((39, 43), 28), ((39, 44), 28), ((39, 45), 28), ((39, 81), 3), ((39, 82), 3), ((39, 84), 3), ((39, 85), 3), ((39, 86), 28), ((39, 87), 28), ((39, 89), 28), ((39, 200007), 115), ((39, 300007), 119), ((39, 400007), 3), ((39, 500007), 3), ((39, 600007), 3), ((39, 200008), 65), ((39, 100042), 3), ((39, 100082), 3), ((39, 100087), 28), ((40, 13), 65), ((40, 20), 65), ((40, 200003), 115), ((40, 300003), 119), ((40, 400003), 3), ((40, 500003), 3), ((40, 600003), 3), ((40, 200004), 65), ((41, 5), 3), ((41, 12), 28), ((41, 14), 28), ((41, 19), 65), ((41, 31), 3), ((41, 32), 3), ((41, 33), 28), ((41, 69), 28), ((41, 76), 3), ((41, 77), 3), ((41, 79), 3), ((41, 80), 3), ((41, 81), 28), ((41, 82), 28), ((41, 83), 28), ((41, 200006), 115), ((41, 300006), 119), ((41, 400006), 3), ((41, 500006), 3), ((41, 600006), 3), ((41, 200007), 65), ((41, 100032), 3), ((41, 100077), 3), ((42, 4), 65), ((42, 5), 65), ((42, 200001), 65), ((42, 200002), 65), ((42, 100005), 65), ((43, 8), 65), ((43, 0), 65), ((43, 200003), 65), ((44, 2), 3), ((44, 6), 3), ((44, 8), 3), ((44, 11), 3), ((44, 12), 3), ((44, 24), 3), ((44, 26), 3), ((44, 27), 3), ((44, 29), 3), ((44, 200003), 3), ((44, 300003), 3), ((44, 400003), 3), ((45, 1), 110), ((45, 12), 65), ((45, 14), 65), ((45, 15), 65), ((45, 17), 110), ((45, 24), 65), ((45, 200002), 65), ((45, 200004), 65), ((45, 200005), 65), ((46, 7), 65), ((46, 10), 65), ((46, 21), 65), ((46, 28), 65), ((46, 0), 65), ((46, 200003), 65), ((47, 200003), 3), ((47, 300003), 3), ((47, 400003), 3), ((48, 8), 115), ((48, 14), 119), ((48, 20), 115), ((48, 29), 119), ((48, 35), 115), ((48, 44), 119), ((48, 56), 119), ((48, 200001), 115), ((48, 300001), 119), ((48, 200004), 3), ((49, 6), 3), ((49, 21), 3), ((49, 31), 3), ((49, 42), 3), ((49, 44), 3), ((49, 45), 28), ((49, 50), 3), ((49, 51), 3), ((49, 54), 3), ((49, 200001), 3), ((49, 300001), 3), ((49, 400001), 3), ((50, 0), 3), ((50, 5), 3), ((51, 7), 115), ((52, 5), 3), ((52, 200001), 115), ((52, 300001), 119), ((52, 400001), 3), ((52, 500001), 3), ((52, 600001), 3), ((53, 14), 119), ((53, 24), 119), ((53, 200002), 115), ((53, 300002), 119), ((53, 400002), 3), ((53, 500002), 3), ((53, 600002), 3), ((55, 200002), 115), ((55, 300002), 119), ((55, 400002), 3), ((55, 500002), 3), ((55, 600002), 3), ((55, 200003), 65), ((56, 0), 3), ((56, 5), 3), ((56, 10), 3), ((56, 15), 3), ((58, 29), 65), ((58, 34), 65), ((58, 46), 65), ((58, 62), 3), ((58, 71), 3), ((58, 200002), 115), ((58, 300002), 119), ((58, 400002), 3), ((58, 500002), 3), ((58, 600002), 3), ((58, 200003), 65), ((59, 0), 3), ((59, 9), 3), ((59, 25), 3), ((60, 9), 115), ((60, 200002), 115), ((60, 300002), 119), ((60, 400002), 3), ((60, 500002), 3), ((60, 600002), 3), ((60, 100005), 115), ((60, 200005), 119), ((60, 200003), 115), ((60, 300003), 119), ((60, 100011), 3), ((60, 200011), 3), ((60, 300011), 3), ((61, 200001), 3), ((61, 300001), 3), ((61, 400001), 3), ((62, 30), 119), ((62, 37), 119), ((62, 55), 65), ((62, 57), 65), ((62, 58), 65), ((62, 65), 65), ((62, 67), 65), ((62, 200003), 115), ((62, 300003), 119), ((62, 400003), 3), ((62, 500003), 3), ((62, 600003), 3), ((62, 200004), 65), ((62, 200005), 65), ((63, 11), 5), ((63, 17), 5), ((63, 51), 5), ((64, 200002), 115), ((64, 300002), 119), ((64, 400002), 3), ((64, 500002), 3), ((64, 600002), 3), ((64, 200003), 115), ((64, 300003), 119), ((64, 400003), 3), ((64, 500003), 3), ((64, 600003), 3), ((65, 11), 65), ((65, 18), 65), ((65, 33), 3), ((65, 39), 3), ((65, 45), 65), ((65, 51), 3), ((65, 58), 65), ((65, 61), 3), ((65, 68), 65), ((65, 71), 3), ((65, 78), 65), ((65, 85), 65), ((65, 87), 65), ((65, 88), 65), ((65, 200003), 115), ((65, 300003), 119), ((65, 400003), 3), ((65, 500003), 3), ((65, 600003), 3), ((65, 200004), 65), ((65, 100015), 65), ((65, 200005), 65), ((66, 13), 65), ((66, 200003), 115), ((66, 300003), 119), ((66, 400003), 3), ((66, 500003), 3), ((66, 600003), 3), ((66, 200004), 65), ((67, 200002), 3), ((67, 300002), 3), ((67, 400002), 3), ((68, 20), 3), ((68, 200004), 115), ((68, 300004), 119), ((68, 400004), 3), ((68, 500004), 3), ((68, 600004), 3), ((68, 200005), 65), ((69, 0), 3), ((69, 2), 3), ((69, 3), 3), ((69, 5), 3), ((69, 6), 3), ((69, 7), 3), ((70, 200003), 3), ((70, 300003), 3), ((70, 400003), 3), ((71, 14), 65), ((71, 30), 3), ((71, 37), 65), ((71, 200004), 115), ((71, 300004), 119), ((71, 400004), 3), ((71, 500004), 3), ((71, 600004), 3), ((71, 200005), 65), ((73, 13), 3), ((73, 20), 3), ((73, 200004), 115), ((73, 300004), 119), ((73, 400004), 3), ((73, 500004), 3), ((73, 600004), 3), ((73, 200005), 65), ((74, 0), 3), ((74, 2), 3), ((74, 3), 3), ((74, 4), 3), ((74, 5), 3), ((75, 16), 65), ((75, 41), 3), ((75, 57), 3), ((75, 200005), 115), ((75, 300005), 119), ((75, 400005), 3), ((75, 500005), 3), ((75, 600005), 3), ((75, 200006), 65), ((76, 200002), 3), ((76, 300002), 3), ((76, 400002), 3), ((78, 0), 65), ((78, 2), 65), ((78, 3), 65), ((78, 5), 65), ((78, 6), 65), ((78, 7), 65), ((80, 200002), 3), ((80, 300002), 3), ((80, 400002), 3), ((81, 7), 3), ((81, 14), 3), ((82, 11), 3), ((82, 29), 3), ((82, 200002), 3), ((83, 0), 115), ((83, 5), 115), ((85, 0), 119), ((85, 5), 119), ((87, 200002), 3), ((87, 300002), 3), ((87, 400002), 3), ((88, 0), 3), ((88, 6), 3), ((88, 12), 3), ((90, 10), 3), ((90, 200003), 115), ((90, 300003), 119), ((90, 400003), 3), ((90, 500003), 3), ((90, 600003), 3), ((91, 14), 3), ((91, 17), 115), ((91, 200001), 115), ((91, 300001), 119), ((91, 400001), 3), ((91, 500001), 3), ((91, 600001), 3), ((92, 14), 119), ((92, 25), 119), ((92, 200002), 115), ((92, 300002), 119), ((92, 400002), 3), ((92, 500002), 3), ((92, 600002), 3), ((93, 6), 3), ((93, 7), 3), ((93, 11), 65), ((93, 28), 3), ((93, 30), 3), ((93, 31), 3), ((93, 33), 3), ((93, 200003), 65), ((94, 3), 119), ((94, 5), 9), ((94, 43), 119), ((94, 44), 119), ((94, 48), 119), ((94, 61), 9), ((94, 70), 9), ((94, 73), 9), ((94, 93), 119), ((94, 102), 3), ((94, 104), 3), ((94, 105), 3), ((94, 109), 115), ((94, 111), 115), ((94, 112), 115), ((94, 200002), 115), ((94, 300002), 119), ((94, 200004), 115), ((94, 300004), 119), ((94, 200007), 3), ((95, 27), 3), ((95, 29), 3), ((95, 30), 3), ((95, 34), 3), ((95, 38), 3), ((95, 200004), 3), ((95, 300004), 3), ((95, 400004), 3), ((95, 200005), 3), ((95, 300005), 3), ((95, 400005), 3), ((95, 100034), 3), ((95, 100038), 3), ((96, 10), 3), ((96, 200003), 3), ((96, 300003), 3), ((96, 400003), 3), ((97, 11), 115), ((97, 14), 3), ((97, 16), 3), ((97, 22), 115), ((97, 24), 9), ((97, 31), 119), ((97, 33), 3), ((97, 40), 119), ((97, 42), 119), ((97, 45), 119), ((97, 46), 119), ((97, 51), 3), ((97, 57), 3), ((97, 63), 115), ((97, 65), 3), ((97, 200002), 115), ((97, 300002), 119), ((97, 100005), 115), ((97, 200005), 119), ((97, 200003), 115), ((97, 300003), 119), ((98, 14), 3), ((98, 20), 3), ((98, 22), 3), ((98, 28), 3), ((98, 37), 3), ((98, 39), 3), ((98, 40), 3), ((98, 44), 3), ((98, 46), 3), ((98, 47), 3), ((98, 200002), 3), ((98, 300002), 3), ((98, 400002), 3), ((98, 100005), 3), ((98, 200005), 3), ((98, 300005), 3), ((98, 200003), 3), ((98, 300003), 3), ((98, 400003), 3), ((99, 8), 65), ((99, 200002), 65), ((100, 4), 3), ((100, 5), 3), ((100, 8), 3), ((100, 10), 65), ((100, 21), 3), ((100, 23), 3), ((100, 24), 3), ((100, 26), 3), ((100, 200002), 65), ((101, 200002), 3), ((101, 300002), 3), ((101, 400002), 3), ((103, 12), 65), ((103, 200004), 115), ((103, 300004), 119), ((103, 400004), 3), ((103, 500004), 3), ((103, 600004), 3), ((103, 200005), 65), ((105, 10), 3), ((105, 200003), 115), ((105, 300003), 119), ((105, 400003), 3), ((105, 500003), 3), ((105, 600003), 3), ((106, 13), 3), ((106, 200004), 115), ((106, 300004), 119), ((106, 400004), 3), ((106, 500004), 3), ((106, 600004), 3), ((106, 200005), 65), ((110, 0), 115), ((110, 6), 115), ((110, 12), 115), ((111, 200002), 3), ((112, 0), 119), ((112, 6), 119), ((112, 12), 119), ((114, 7), 115), ((114, 10), 3), ((114, 200002), 115), ((114, 300002), 119), ((114, 400002), 3), ((114, 500002), 3), ((114, 600002), 3), ((114, 200004), 3), ((115, 8), 115), ((115, 14), 119), ((115, 20), 115), ((115, 33), 115), ((115, 42), 3), ((115, 45), 119), ((115, 51), 3), ((115, 69), 119), ((115, 82), 119), ((115, 200001), 115), ((115, 300001), 119), ((115, 200004), 3), ((116, 13), 3), ((116, 21), 3), ((116, 27), 3), ((116, 33), 3), ((116, 200001), 3), ((116, 300001), 3), ((116, 400001), 3), ((117, 0), 3), ((117, 9), 3), ((118, 4), 3), ((118, 5), 3), ((118, 26), 3), ((118, 31), 3), ((118, 32), 3), ((118, 200003), 3), ((118, 300003), 3), ((118, 400003), 3), ((118, 100031), 3), ((119, 1), 9), ((119, 5), 9), ((119, 7), 9), ((120, 14), 119), ((120, 200003), 115), ((120, 300003), 119), ((120, 400003), 3), ((120, 500003), 3), ((120, 600003), 3), ((121, 7), 115), ((121, 10), 3), ((121, 200002), 115), ((121, 300002), 119), ((121, 400002), 3), ((121, 500002), 3), ((121, 600002), 3), ((121, 200004), 3), ((122, 8), 3), ((122, 9), 3), ((122, 13), 65), ((122, 31), 3), ((122, 33), 3), ((122, 34), 3), ((122, 36), 3), ((122, 200004), 115), ((122, 300004), 119), ((122, 400004), 3), ((122, 500004), 3), ((122, 600004), 3), ((122, 200005), 65), ((124, 0), 115), ((124, 7), 115), ((124, 200006), 3), ((125, 0), 119), ((125, 7), 119), ((126, 1), 3), ((126, 7), 3), ((126, 30), 3), ((126, 200002), 3), ((126, 300002), 3), ((126, 400002), 3), ((127, 0), 3), ((127, 4), 3), ((127, 6), 3), ((127, 8), 3), ((127, 12), 3), ((127, 22), 3), ((127, 26), 3), ((127, 33), 3), ((127, 34), 3), ((127, 35), 3), ((127, 37), 3), ((127, 38), 3), ((127, 39), 3), ((127, 41), 3), ((127, 42), 3), ((127, 43), 3), ((127, 44), 3), ((127, 46), 3), ((127, 47), 3), ((128, 200003), 3), ((128, 300003), 3), ((128, 400003), 3), ((129, 6), 3), ((129, 12), 3), ((129, 200002), 3), ((129, 300002), 3), ((129, 400002), 3), ((130, 200003), 3), ((130, 300003), 3), ((130, 400003), 3), ((131, 12), 65), ((131, 22), 119), ((131, 200004), 115), ((131, 300004), 119), ((131, 400004), 3), ((131, 500004), 3), ((131, 600004), 3), ((131, 200005), 65), ((132, 0), 3), ((132, 5), 3), ((133, 8), 3), ((133, 200003), 3), ((133, 300003), 3), ((133, 400003), 3), ((134, 8), 3), ((134, 200003), 3), ((134, 300003), 3), ((134, 400003), 3), ((135, 0), 3), ((135, 6), 3), ((135, 12), 3), ((136, 0), 3), ((136, 7), 3)]
def capAt : List (Nat × List (Option TypeId)) → Nat → List (Option TypeId)
 | [], _ => []
 | (a, h) :: r, f => bif Nat.beq a f then h else capAt r f
def ke37 : KE := ⟨DBoard × DState, fun a => .tup [.agg [slc cTerrain a.1.Rules.Terrains, slc cKind a.1.Rules.Kinds, I a.1.Rules.Stack, I a.1.Rules.River, I a.1.Rules.Road, I a.1.Rules.Supply, I a.1.Rules.Turns, I a.1.Map.Width, I a.1.Map.Height, slc cI a.1.Map.Terrain, slc cI a.1.Map.Rivers, slc cI a.1.Map.Roads], .agg [I a.2.Turn, I a.2.Weather, .own (.r 0 0) none 0 a.2.Units.length a.2.Units.length]], fun a => [(.r 0 0, some (rowB true false 4 cUnit a.2.Units))]⟩
def ke39 : KE := ⟨List (List Int), fun a => .own (.r 0 0) none 0 a.length a.length, fun a => [(.r 0 0, some (rowB true false 1 cLI a))]⟩
def ke42 : KE := ⟨DState, fun a => .agg [I a.Turn, I a.Weather, .own (.r 0 0) none 0 a.Units.length a.Units.length], fun a => [(.r 0 0, some (rowB true false 4 cUnit a.Units))]⟩
def ke45 : KE := ⟨DState, fun a => .agg [I a.Turn, I a.Weather, .own (.r 0 0) none 0 a.Units.length a.Units.length], fun a => [(.r 0 0, some (rowB true false 4 cUnit a.Units))]⟩
def ke62 : KE := ⟨DState, fun a => .agg [I a.Turn, I a.Weather, .own (.r 0 0) none 0 a.Units.length a.Units.length], fun a => [(.r 0 0, some (rowB true false 4 cUnit a.Units))]⟩
def ke65 : KE := ⟨DState, fun a => .agg [I a.Turn, I a.Weather, .own (.r 0 0) none 0 a.Units.length a.Units.length], fun a => [(.r 0 0, some (rowB true false 4 cUnit a.Units))]⟩
def ke69 : KE := ⟨List Int, fun a => .own (.r 0 0) none 0 a.length a.length, fun a => [(.r 0 0, some (rowB true false 1 cI a))]⟩
def ke74 : KE := ⟨List Int, fun a => .own (.r 0 0) none 0 a.length a.length, fun a => [(.r 0 0, some (rowB true false 1 cI a))]⟩
def ke78 : KE := ⟨List DUnit, fun a => .own (.r 0 0) none 0 a.length a.length, fun a => [(.r 0 0, some (rowB true false 4 cUnit a))]⟩
def cTerrainN (x : DTerrain) : List AV := [S x.Name, .nst 1 x.Cost.length (x.Cost.flatMap cI), I x.Shift, I x.Height, B x.Blocks]
def ke94 : KE := ⟨(DRules) × List DKind, fun a => .agg [.own (.r 0 0) none 0 a.1.Terrains.length a.1.Terrains.length, .own (.r 0 1) none 0 a.1.Kinds.length (a.1.Kinds.length + a.2.length), I a.1.Stack, I a.1.River, I a.1.Road, I a.1.Supply, I a.1.Turns], fun a => [(.r 0 0, some (rowB true true 5 cTerrainN a.1.Terrains)), (.r 0 1, some (rowB true false 6 cKind (a.1.Kinds ++ a.2)))]⟩
def ke95 : KE := ⟨DMap, fun a => .agg [I a.Width, I a.Height, .own (.r 0 0) none 0 a.Terrain.length a.Terrain.length, .own (.r 0 1) none 0 a.Rivers.length a.Rivers.length, .own (.r 0 2) none 0 a.Roads.length a.Roads.length], fun a => [(.r 0 0, some (rowB true false 1 cI a.Terrain)), (.r 0 1, some (rowB true false 1 cI a.Rivers)), (.r 0 2, some (rowB true false 1 cI a.Roads))]⟩
def ke118 : KE := ⟨List Int, fun a => .own (.r 0 0) none 0 a.length a.length, fun a => [(.r 0 0, some (rowB true false 1 cI a))]⟩
def ke127 : KE := ⟨List Int, fun a => .own (.r 0 0) none 0 a.length a.length, fun a => [(.r 0 0, some (rowB true false 1 cI a))]⟩
def kl127 : KE := ⟨Nat, fun a => .own (.l 0) none 0 a a, fun _ => []⟩
def tnTerrain : TE := ⟨DTerrain, true, cTerrainN⟩
def cLIN (x : List Int) : List AV := [.nst 1 x.length (x.flatMap cI)]
def tnLI : TE := ⟨List Int, false, cLIN⟩
def tblN : Tbl := tblAt [(115, tnTerrain), (114, tnTerrain), (28, tnLI)]
def T : Hn := { t := tbl, row := fun f id => match id with | .v t => rowAt rowTab f t | .h t k => (rowAt rowTab f (t + 100000 * (k + 1))).or (rowAt rowTab f t) | .r t k => (rowAt rowTab f (t + 100000 * (k + 1))).or (rowAt rowTab f t) | .l i => rowAt rowTab f i, n := tblN, cap := capAt [(51, [some 32]), (57, [some 32, some 35]), (111, [some 9]), (113, [some 9])], kept := fun f _ => bif Nat.beq f 37 then [ke37] else bif Nat.beq f 39 then [ke39] else bif Nat.beq f 42 then [ke42] else bif Nat.beq f 45 then [ke45] else bif Nat.beq f 62 then [ke62] else bif Nat.beq f 65 then [ke65] else bif Nat.beq f 69 then [ke69] else bif Nat.beq f 74 then [ke74] else bif Nat.beq f 78 then [ke78] else bif Nat.beq f 94 then [ke94] else bif Nat.beq f 95 then [ke95] else bif Nat.beq f 118 then [ke118] else bif Nat.beq f 127 then [kl127, ke127] else [] }
def hintAt : List ((Nat × Nat) × List (Nat × Option Nat)) → Nat → Nat → List (Nat × Option Nat)
 | [], _, _ => []
 | (a, h) :: r, f, i => bif Nat.beq a.1 f && Nat.beq a.2 i then h else hintAt r f i
def hints : List ((Nat × Nat) × List (Nat × Option Nat)) := [((10, 4), [(0, none), (1, none), (12, none), (13, none)]), ((13, 4), [(2, none), (3, none), (29, none), (30, none)]), ((18, 4), [(0, none), (2, none), (3, none), (5, none), (6, none), (7, none), (8, none)]), ((25, 7), [(2, none), (4, none), (8, none), (10, none), (30, none), (31, none), (32, none)]), ((27, 5), [(2, none), (5, none), (31, none), (32, none), (33, none)]), ((28, 3), [(0, none), (3, none), (5, some 1), (9, none), (10, none), (11, none)]), ((31, 3), [(3, none), (4, none), (8, none), (10, none), (11, none), (18, none), (19, none), (20, none)]), ((32, 4), [(4, none), (22, none), (23, none), (24, none)]), ((34, 4), [(3, none), (4, none), (5, none), (8, none), (10, none), (17, none), (18, none), (19, none)]), ((35, 6), [(0, none), (2, none), (3, none), (4, none), (5, none), (6, none), (1005002, some 4)]), ((39, 7), [(2, none), (3, none), (4, none), (5, none), (6, some 1), (7, none), (8, none), (15, none), (46, none)]), ((41, 8), [(2, none), (3, none), (4, none), (5, none), (6, none), (7, none), (13, none), (14, some 1), (15, none)]), ((44, 3), [(1, none), (3, none), (8, some 1), (12, none), (13, none), (14, none)]), ((45, 3), [(4, none), (5, none), (17, none), (18, none), (19, none)]), ((48, 4), [(1, none), (20, none), (21, none), (22, none)]), ((48, 10), [(1, none), (44, none), (45, none), (46, none)]), ((49, 4), [(1, none), (31, none), (32, none), (33, none)]), ((49, 10), [(1, none), (45, none), (46, none), (47, none)]), ((49, 15), [(1, none), (45, none), (46, none), (47, none), (54, none), (55, none), (56, none)]), ((56, 2), [(0, none), (3, none)]), ((58, 4), [(2, none), (3, none), (34, none), (35, none), (36, none)]), ((58, 10), [(2, none), (3, none), (46, none), (47, none), (48, none)]), ((59, 2), [(0, none), (1, none), (2, none), (9, none), (10, none), (11, none)]), ((62, 3), [(0, none), (3, none), (4, none), (5, none), (6, none), (1005002, some 4)]), ((65, 17), [(0, none), (4, none), (5, none), (1005002, some 4)]), ((71, 6), [(2, none), (3, none), (4, none), (5, none), (9, none), (10, none), (30, none), (31, none), (32, none)]), ((75, 8), [(2, none), (57, none), (58, none), (59, none)]), ((88, 2), [(0, none), (1, none), (7, none), (8, none)]), ((93, 3), [(1, none), (2, none), (7, some 1), (11, none), (12, none), (13, none)]), ((94, 5), [(0, none), (2, none), (4, none), (5, none), (6, none), (1004000, some 1005)]), ((94, 10), [(0, none), (2, none), (4, none), (5, none), (6, none), (7, none), (94, none), (95, none), (1007001, some 1)]), ((95, 3), [(0, none), (1, none), (4, none), (5, none), (6, none), (1005002, some 1)]), ((99, 2), [(1, none), (8, none), (9, none), (10, none)]), ((100, 3), [(1, none), (5, some 1), (10, none), (11, none), (12, none)]), ((103, 2), [(2, none), (3, none), (4, none), (12, none), (13, none), (14, none)]), ((108, 2), [(0, none), (3, none)]), ((110, 2), [(0, none), (1, none), (7, none), (8, none)]), ((112, 2), [(0, none), (1, none), (7, none), (8, none)]), ((115, 4), [(1, none), (20, none), (21, none), (22, none)]), ((115, 10), [(1, none), (69, none), (70, none), (71, none)]), ((117, 2), [(1, none), (2, none), (9, none), (10, none), (11, none)]), ((118, 3), [(0, none), (3, none), (5, some 1), (6, none)]), ((120, 4), [(2, none), (3, none), (4, none), (30, none)]), ((122, 3), [(2, none), (3, none), (4, none), (5, none), (9, some 1), (13, none), (14, none), (15, none)]), ((123, 2), [(0, none), (3, none)]), ((124, 2), [(1, none), (7, none), (8, none), (9, none)]), ((125, 2), [(1, none), (7, none), (8, none), (9, none)]), ((126, 2), [(1, none), (2, none), (7, none), (8, none), (9, none)]), ((127, 2), [(0, none), (1, none), (5, none)]), ((131, 5), [(3, none), (4, none), (9, none), (10, none)]), ((135, 2), [(0, none), (1, none), (7, none), (8, none)]), ((136, 2), [(1, none), (7, none), (8, none), (9, none)]), ((69, 1000002), [(0, none)]), ((78, 1000002), [(0, none)]), ((37, 1000000), [(0, some 5), (1, some 6), (9, some 1), (10, some 1), (11, some 1), (102, some 4)]), ((39, 1000003), [(0, none)]), ((39, 1000000), [(0, some 1), (500000, some 1)]), ((42, 1000000), [(2, some 4)]), ((42, 1000001), [(0, none)]), ((45, 1000000), [(2, some 4)]), ((45, 1000001), [(0, none)]), ((62, 1000000), [(2, some 4)]), ((62, 1000001), [(0, none)]), ((65, 1000000), [(2, some 4)]), ((65, 1000001), [(0, none)]), ((69, 1000000), [(0, some 1)]), ((69, 1000001), [(0, none)]), ((74, 1000000), [(0, some 1)]), ((74, 1000001), [(0, none)]), ((78, 1000000), [(0, some 4)]), ((78, 1000001), [(0, none)]), ((94, 1000000), [(0, some 1005), (1, some 6)]), ((95, 1000000), [(2, some 1), (3, some 1), (4, some 1)]), ((95, 1000001), [(0, none)]), ((118, 1000000), [(0, some 1)]), ((118, 1000001), [(0, none)]), ((127, 1000000), [(0, some 1)]), ((127, 1000001), [(0, none)])]
variable [Inhabited Known]
noncomputable def G : Cfg := { kn := (default : Known).kn, P := Tryz.prog, glob := fun g => bif Nat.beq g 0 then some [I 1, I 0, I 1, I (-1), I 0, I (-1), I (-1), I 0, I (-1), I 1, I 0, I 1] else none, lend := fun f i => (Nat.beq f 127 && Nat.beq i 0) || (Nat.beq f 43 && Nat.beq i 0) || (Nat.beq f 46 && Nat.beq i 0) || (Nat.beq f 39 && Nat.beq i 6), keep := fun f => Nat.beq f 127 || Nat.beq f 118 || Nat.beq f 95 || Nat.beq f 94 || Nat.beq f 62 || Nat.beq f 65 || Nat.beq f 37 || Nat.beq f 42 || Nat.beq f 74 || Nat.beq f 39 || Nat.beq f 45 || Nat.beq f 69 || Nat.beq f 78, inl := fun f => Nat.beq f 94 || Nat.beq f 97, hint := hintAt hints }
end Go.Ev
namespace Go.Ev
open Go Go.Proofs
set_option linter.unusedSimpArgs false
theorem byte_inj (a b : UInt8) : ((a.toNat : Int) = (b.toNat : Int)) ↔ a = b := ⟨fun h => UInt8.toNat_inj.1 (by omega), fun h => h ▸ rfl⟩
theorem cY_eq (a b : UInt8) : cY a = cY b ↔ a = b := by simp [cY, byte_inj]
attribute [simp] cY_eq
theorem ok_cY : COk cY 1 := ⟨fun _ => rfl, fun a b h => (cY_eq a b).1 h⟩
@[simp] theorem rw_cY {fr nest : Bool} {l m : List UInt8} : rowB fr nest 1 cY l = rowB fr nest 1 cY m ↔ l = m := rowB_eq ok_cY (by decide)
@[simp] theorem slc_cY (l m : List UInt8) : slc cY l = slc cY m ↔ l = m := slc_eq ok_cY
theorem cLY_eq (a b : List UInt8) : cLY a = cLY b ↔ a = b := by simp [cLY, byte_inj]
attribute [simp] cLY_eq
theorem ok_cLY : COk cLY 1 := ⟨fun _ => rfl, fun a b h => (cLY_eq a b).1 h⟩
@[simp] theorem rw_cLY {fr nest : Bool} {l m : List (List UInt8)} : rowB fr nest 1 cLY l = rowB fr nest 1 cLY m ↔ l = m := rowB_eq ok_cLY (by decide)
@[simp] theorem slc_cLY (l m : List (List UInt8)) : slc cLY l = slc cLY m ↔ l = m := slc_eq ok_cLY
theorem cB_eq (a b : Bool) : cB a = cB b ↔ a = b := by simp [cB, byte_inj]
attribute [simp] cB_eq
theorem ok_cB : COk cB 1 := ⟨fun _ => rfl, fun a b h => (cB_eq a b).1 h⟩
@[simp] theorem rw_cB {fr nest : Bool} {l m : List Bool} : rowB fr nest 1 cB l = rowB fr nest 1 cB m ↔ l = m := rowB_eq ok_cB (by decide)
@[simp] theorem slc_cB (l m : List Bool) : slc cB l = slc cB m ↔ l = m := slc_eq ok_cB
theorem cS_eq (a b : ByteArray) : cS a = cS b ↔ a = b := by simp [cS, byte_inj]
attribute [simp] cS_eq
theorem ok_cS : COk cS 1 := ⟨fun _ => rfl, fun a b h => (cS_eq a b).1 h⟩
@[simp] theorem rw_cS {fr nest : Bool} {l m : List ByteArray} : rowB fr nest 1 cS l = rowB fr nest 1 cS m ↔ l = m := rowB_eq ok_cS (by decide)
@[simp] theorem slc_cS (l m : List ByteArray) : slc cS l = slc cS m ↔ l = m := slc_eq ok_cS
theorem cI_eq (a b : Int) : cI a = cI b ↔ a = b := by simp [cI, byte_inj]
attribute [simp] cI_eq
theorem ok_cI : COk cI 1 := ⟨fun _ => rfl, fun a b h => (cI_eq a b).1 h⟩
@[simp] theorem rw_cI {fr nest : Bool} {l m : List Int} : rowB fr nest 1 cI l = rowB fr nest 1 cI m ↔ l = m := rowB_eq ok_cI (by decide)
@[simp] theorem slc_cI (l m : List Int) : slc cI l = slc cI m ↔ l = m := slc_eq ok_cI
theorem cLI_eq (a b : List Int) : cLI a = cLI b ↔ a = b := by simp [cLI, byte_inj]
attribute [simp] cLI_eq
theorem ok_cLI : COk cLI 1 := ⟨fun _ => rfl, fun a b h => (cLI_eq a b).1 h⟩
@[simp] theorem rw_cLI {fr nest : Bool} {l m : List (List Int)} : rowB fr nest 1 cLI l = rowB fr nest 1 cLI m ↔ l = m := rowB_eq ok_cLI (by decide)
@[simp] theorem slc_cLI (l m : List (List Int)) : slc cLI l = slc cLI m ↔ l = m := slc_eq ok_cLI
theorem cTerrain_eq (a b : DTerrain) : cTerrain a = cTerrain b ↔ a = b := by
 obtain ⟨_, _, _, _, _⟩ := a
 obtain ⟨_, _, _, _, _⟩ := b
 simp [cTerrain, and_assoc, byte_inj]
attribute [simp] cTerrain_eq
theorem ok_cTerrain : COk cTerrain 5 := ⟨fun _ => rfl, fun a b h => (cTerrain_eq a b).1 h⟩
@[simp] theorem rw_cTerrain {fr nest : Bool} {l m : List DTerrain} : rowB fr nest 5 cTerrain l = rowB fr nest 5 cTerrain m ↔ l = m := rowB_eq ok_cTerrain (by decide)
@[simp] theorem slc_cTerrain (l m : List DTerrain) : slc cTerrain l = slc cTerrain m ↔ l = m := slc_eq ok_cTerrain
theorem cLTerrain_eq (a b : List DTerrain) : cLTerrain a = cLTerrain b ↔ a = b := by simp [cLTerrain, byte_inj]
attribute [simp] cLTerrain_eq
theorem ok_cLTerrain : COk cLTerrain 1 := ⟨fun _ => rfl, fun a b h => (cLTerrain_eq a b).1 h⟩
@[simp] theorem rw_cLTerrain {fr nest : Bool} {l m : List (List DTerrain)} : rowB fr nest 1 cLTerrain l = rowB fr nest 1 cLTerrain m ↔ l = m := rowB_eq ok_cLTerrain (by decide)
@[simp] theorem slc_cLTerrain (l m : List (List DTerrain)) : slc cLTerrain l = slc cLTerrain m ↔ l = m := slc_eq ok_cLTerrain
theorem cKind_eq (a b : DKind) : cKind a = cKind b ↔ a = b := by
 obtain ⟨_, _, _, _, _, _⟩ := a
 obtain ⟨_, _, _, _, _, _⟩ := b
 simp [cKind, and_assoc, byte_inj]
attribute [simp] cKind_eq
theorem ok_cKind : COk cKind 6 := ⟨fun _ => rfl, fun a b h => (cKind_eq a b).1 h⟩
@[simp] theorem rw_cKind {fr nest : Bool} {l m : List DKind} : rowB fr nest 6 cKind l = rowB fr nest 6 cKind m ↔ l = m := rowB_eq ok_cKind (by decide)
@[simp] theorem slc_cKind (l m : List DKind) : slc cKind l = slc cKind m ↔ l = m := slc_eq ok_cKind
theorem cLKind_eq (a b : List DKind) : cLKind a = cLKind b ↔ a = b := by simp [cLKind, byte_inj]
attribute [simp] cLKind_eq
theorem ok_cLKind : COk cLKind 1 := ⟨fun _ => rfl, fun a b h => (cLKind_eq a b).1 h⟩
@[simp] theorem rw_cLKind {fr nest : Bool} {l m : List (List DKind)} : rowB fr nest 1 cLKind l = rowB fr nest 1 cLKind m ↔ l = m := rowB_eq ok_cLKind (by decide)
@[simp] theorem slc_cLKind (l m : List (List DKind)) : slc cLKind l = slc cLKind m ↔ l = m := slc_eq ok_cLKind
theorem cRules_eq (a b : DRules) : cRules a = cRules b ↔ a = b := by
 obtain ⟨_, _, _, _, _, _, _⟩ := a
 obtain ⟨_, _, _, _, _, _, _⟩ := b
 simp [cRules, and_assoc, byte_inj]
attribute [simp] cRules_eq
theorem ok_cRules : COk cRules 7 := ⟨fun _ => rfl, fun a b h => (cRules_eq a b).1 h⟩
@[simp] theorem rw_cRules {fr nest : Bool} {l m : List DRules} : rowB fr nest 7 cRules l = rowB fr nest 7 cRules m ↔ l = m := rowB_eq ok_cRules (by decide)
@[simp] theorem slc_cRules (l m : List DRules) : slc cRules l = slc cRules m ↔ l = m := slc_eq ok_cRules
theorem cMap_eq (a b : DMap) : cMap a = cMap b ↔ a = b := by
 obtain ⟨_, _, _, _, _⟩ := a
 obtain ⟨_, _, _, _, _⟩ := b
 simp [cMap, and_assoc, byte_inj]
attribute [simp] cMap_eq
theorem ok_cMap : COk cMap 5 := ⟨fun _ => rfl, fun a b h => (cMap_eq a b).1 h⟩
@[simp] theorem rw_cMap {fr nest : Bool} {l m : List DMap} : rowB fr nest 5 cMap l = rowB fr nest 5 cMap m ↔ l = m := rowB_eq ok_cMap (by decide)
@[simp] theorem slc_cMap (l m : List DMap) : slc cMap l = slc cMap m ↔ l = m := slc_eq ok_cMap
theorem cBoard_eq (a b : DBoard) : cBoard a = cBoard b ↔ a = b := by
 obtain ⟨⟨_, _, _, _, _, _, _⟩, ⟨_, _, _, _, _⟩⟩ := a
 obtain ⟨⟨_, _, _, _, _, _, _⟩, ⟨_, _, _, _, _⟩⟩ := b
 simp [cBoard, and_assoc, byte_inj]
attribute [simp] cBoard_eq
theorem ok_cBoard : COk cBoard 12 := ⟨fun _ => rfl, fun a b h => (cBoard_eq a b).1 h⟩
@[simp] theorem rw_cBoard {fr nest : Bool} {l m : List DBoard} : rowB fr nest 12 cBoard l = rowB fr nest 12 cBoard m ↔ l = m := rowB_eq ok_cBoard (by decide)
@[simp] theorem slc_cBoard (l m : List DBoard) : slc cBoard l = slc cBoard m ↔ l = m := slc_eq ok_cBoard
theorem cUnit_eq (a b : DUnit) : cUnit a = cUnit b ↔ a = b := by
 obtain ⟨_, _, _, _⟩ := a
 obtain ⟨_, _, _, _⟩ := b
 simp [cUnit, and_assoc, byte_inj]
attribute [simp] cUnit_eq
theorem ok_cUnit : COk cUnit 4 := ⟨fun _ => rfl, fun a b h => (cUnit_eq a b).1 h⟩
@[simp] theorem rw_cUnit {fr nest : Bool} {l m : List DUnit} : rowB fr nest 4 cUnit l = rowB fr nest 4 cUnit m ↔ l = m := rowB_eq ok_cUnit (by decide)
@[simp] theorem slc_cUnit (l m : List DUnit) : slc cUnit l = slc cUnit m ↔ l = m := slc_eq ok_cUnit
theorem cLUnit_eq (a b : List DUnit) : cLUnit a = cLUnit b ↔ a = b := by simp [cLUnit, byte_inj]
attribute [simp] cLUnit_eq
theorem ok_cLUnit : COk cLUnit 1 := ⟨fun _ => rfl, fun a b h => (cLUnit_eq a b).1 h⟩
@[simp] theorem rw_cLUnit {fr nest : Bool} {l m : List (List DUnit)} : rowB fr nest 1 cLUnit l = rowB fr nest 1 cLUnit m ↔ l = m := rowB_eq ok_cLUnit (by decide)
@[simp] theorem slc_cLUnit (l m : List (List DUnit)) : slc cLUnit l = slc cLUnit m ↔ l = m := slc_eq ok_cLUnit
theorem cState_eq (a b : DState) : cState a = cState b ↔ a = b := by
 obtain ⟨_, _, _⟩ := a
 obtain ⟨_, _, _⟩ := b
 simp [cState, and_assoc, byte_inj]
attribute [simp] cState_eq
theorem ok_cState : COk cState 3 := ⟨fun _ => rfl, fun a b h => (cState_eq a b).1 h⟩
@[simp] theorem rw_cState {fr nest : Bool} {l m : List DState} : rowB fr nest 3 cState l = rowB fr nest 3 cState m ↔ l = m := rowB_eq ok_cState (by decide)
@[simp] theorem slc_cState (l m : List DState) : slc cState l = slc cState m ↔ l = m := slc_eq ok_cState
theorem cU64_eq (a b : Int) : cU64 a = cU64 b ↔ a = b := by simp [cU64, byte_inj]
attribute [simp] cU64_eq
theorem ok_cU64 : COk cU64 1 := ⟨fun _ => rfl, fun a b h => (cU64_eq a b).1 h⟩
@[simp] theorem rw_cU64 {fr nest : Bool} {l m : List Int} : rowB fr nest 1 cU64 l = rowB fr nest 1 cU64 m ↔ l = m := rowB_eq ok_cU64 (by decide)
@[simp] theorem slc_cU64 (l m : List Int) : slc cU64 l = slc cU64 m ↔ l = m := slc_eq ok_cU64
theorem cl1Cur_eq (a b : Dl1Cur) : cl1Cur a = cl1Cur b ↔ a = b := by
 obtain ⟨_, _, _⟩ := a
 obtain ⟨_, _, _⟩ := b
 simp [cl1Cur, and_assoc, byte_inj]
attribute [simp] cl1Cur_eq
theorem ok_cl1Cur : COk cl1Cur 3 := ⟨fun _ => rfl, fun a b h => (cl1Cur_eq a b).1 h⟩
@[simp] theorem rw_cl1Cur {fr nest : Bool} {l m : List Dl1Cur} : rowB fr nest 3 cl1Cur l = rowB fr nest 3 cl1Cur m ↔ l = m := rowB_eq ok_cl1Cur (by decide)
@[simp] theorem slc_cl1Cur (l m : List Dl1Cur) : slc cl1Cur l = slc cl1Cur m ↔ l = m := slc_eq ok_cl1Cur
theorem cLLI_eq (a b : List (List Int)) : cLLI a = cLLI b ↔ a = b := by simp [cLLI, byte_inj]
attribute [simp] cLLI_eq
theorem ok_cLLI : COk cLLI 1 := ⟨fun _ => rfl, fun a b h => (cLLI_eq a b).1 h⟩
@[simp] theorem rw_cLLI {fr nest : Bool} {l m : List (List (List Int))} : rowB fr nest 1 cLLI l = rowB fr nest 1 cLLI m ↔ l = m := rowB_eq ok_cLLI (by decide)
@[simp] theorem slc_cLLI (l m : List (List (List Int))) : slc cLLI l = slc cLLI m ↔ l = m := slc_eq ok_cLLI
theorem cA2I_eq (a b : A2I) : cA2I a = cA2I b ↔ a = b := by
 obtain ⟨_, _⟩ := a
 obtain ⟨_, _⟩ := b
 simp [cA2I, and_assoc, byte_inj]
attribute [simp] cA2I_eq
theorem ok_cA2I : COk cA2I 2 := ⟨fun _ => rfl, fun a b h => (cA2I_eq a b).1 h⟩
@[simp] theorem rw_cA2I {fr nest : Bool} {l m : List A2I} : rowB fr nest 2 cA2I l = rowB fr nest 2 cA2I m ↔ l = m := rowB_eq ok_cA2I (by decide)
@[simp] theorem slc_cA2I (l m : List A2I) : slc cA2I l = slc cA2I m ↔ l = m := slc_eq ok_cA2I
theorem cLA2I_eq (a b : List A2I) : cLA2I a = cLA2I b ↔ a = b := by simp [cLA2I, byte_inj]
attribute [simp] cLA2I_eq
theorem ok_cLA2I : COk cLA2I 1 := ⟨fun _ => rfl, fun a b h => (cLA2I_eq a b).1 h⟩
@[simp] theorem rw_cLA2I {fr nest : Bool} {l m : List (List A2I)} : rowB fr nest 1 cLA2I l = rowB fr nest 1 cLA2I m ↔ l = m := rowB_eq ok_cLA2I (by decide)
@[simp] theorem slc_cLA2I (l m : List (List A2I)) : slc cLA2I l = slc cLA2I m ↔ l = m := slc_eq ok_cLA2I
theorem cHex_eq (a b : DHex) : cHex a = cHex b ↔ a = b := by
 obtain ⟨_, _⟩ := a
 obtain ⟨_, _⟩ := b
 simp [cHex, and_assoc, byte_inj]
attribute [simp] cHex_eq
theorem ok_cHex : COk cHex 2 := ⟨fun _ => rfl, fun a b h => (cHex_eq a b).1 h⟩
@[simp] theorem rw_cHex {fr nest : Bool} {l m : List DHex} : rowB fr nest 2 cHex l = rowB fr nest 2 cHex m ↔ l = m := rowB_eq ok_cHex (by decide)
@[simp] theorem slc_cHex (l m : List DHex) : slc cHex l = slc cHex m ↔ l = m := slc_eq ok_cHex
theorem cAttempt_eq (a b : DAttempt) : cAttempt a = cAttempt b ↔ a = b := by
 obtain ⟨_, _, _⟩ := a
 obtain ⟨_, _, _⟩ := b
 simp [cAttempt, and_assoc, byte_inj]
attribute [simp] cAttempt_eq
theorem ok_cAttempt : COk cAttempt 3 := ⟨fun _ => rfl, fun a b h => (cAttempt_eq a b).1 h⟩
@[simp] theorem rw_cAttempt {fr nest : Bool} {l m : List DAttempt} : rowB fr nest 3 cAttempt l = rowB fr nest 3 cAttempt m ↔ l = m := rowB_eq ok_cAttempt (by decide)
@[simp] theorem slc_cAttempt (l m : List DAttempt) : slc cAttempt l = slc cAttempt m ↔ l = m := slc_eq ok_cAttempt
theorem cLAttempt_eq (a b : List DAttempt) : cLAttempt a = cLAttempt b ↔ a = b := by simp [cLAttempt, byte_inj]
attribute [simp] cLAttempt_eq
theorem ok_cLAttempt : COk cLAttempt 1 := ⟨fun _ => rfl, fun a b h => (cLAttempt_eq a b).1 h⟩
@[simp] theorem rw_cLAttempt {fr nest : Bool} {l m : List (List DAttempt)} : rowB fr nest 1 cLAttempt l = rowB fr nest 1 cLAttempt m ↔ l = m := rowB_eq ok_cLAttempt (by decide)
@[simp] theorem slc_cLAttempt (l m : List (List DAttempt)) : slc cLAttempt l = slc cLAttempt m ↔ l = m := slc_eq ok_cLAttempt
theorem cLS_eq (a b : List ByteArray) : cLS a = cLS b ↔ a = b := by simp [cLS, byte_inj]
attribute [simp] cLS_eq
theorem ok_cLS : COk cLS 1 := ⟨fun _ => rfl, fun a b h => (cLS_eq a b).1 h⟩
@[simp] theorem rw_cLS {fr nest : Bool} {l m : List (List ByteArray)} : rowB fr nest 1 cLS l = rowB fr nest 1 cLS m ↔ l = m := rowB_eq ok_cLS (by decide)
@[simp] theorem slc_cLS (l m : List (List ByteArray)) : slc cLS l = slc cLS m ↔ l = m := slc_eq ok_cLS
theorem cA6Hex_eq (a b : A6Hex) : cA6Hex a = cA6Hex b ↔ a = b := by
 obtain ⟨⟨_, _⟩, ⟨_, _⟩, ⟨_, _⟩, ⟨_, _⟩, ⟨_, _⟩, ⟨_, _⟩⟩ := a
 obtain ⟨⟨_, _⟩, ⟨_, _⟩, ⟨_, _⟩, ⟨_, _⟩, ⟨_, _⟩, ⟨_, _⟩⟩ := b
 simp [cA6Hex, and_assoc, byte_inj]
attribute [simp] cA6Hex_eq
theorem ok_cA6Hex : COk cA6Hex 12 := ⟨fun _ => rfl, fun a b h => (cA6Hex_eq a b).1 h⟩
@[simp] theorem rw_cA6Hex {fr nest : Bool} {l m : List A6Hex} : rowB fr nest 12 cA6Hex l = rowB fr nest 12 cA6Hex m ↔ l = m := rowB_eq ok_cA6Hex (by decide)
@[simp] theorem slc_cA6Hex (l m : List A6Hex) : slc cA6Hex l = slc cA6Hex m ↔ l = m := slc_eq ok_cA6Hex
theorem cTerrainN_eq (a b : DTerrain) : cTerrainN a = cTerrainN b ↔ a = b := by
 obtain ⟨_, _, _, _, _⟩ := a
 obtain ⟨_, _, _, _, _⟩ := b
 simp only [cTerrainN, List.cons.injEq, AV.sc.injEq, Value.string.injEq, Value.int.injEq, Value.bool.injEq, nst_eq ok_cI, true_and, and_true, DTerrain.mk.injEq]
attribute [simp] cTerrainN_eq
theorem ok_cTerrainN : COk cTerrainN 5 := ⟨fun _ => rfl, fun a b h => (cTerrainN_eq a b).1 h⟩
@[simp] theorem rw_cTerrainN {fr nest : Bool} {l m : List DTerrain} : rowB fr nest 5 cTerrainN l = rowB fr nest 5 cTerrainN m ↔ l = m := rowB_eq ok_cTerrainN (by decide)
theorem cLIN_eq (a b : List Int) : cLIN a = cLIN b ↔ a = b := by simp only [cLIN, List.cons.injEq, nst_eq ok_cI, and_true]
attribute [simp] cLIN_eq
theorem ok_cLIN : COk cLIN 1 := ⟨fun _ => rfl, fun a b h => (cLIN_eq a b).1 h⟩
@[simp] theorem rw_cLIN {fr nest : Bool} {l m : List (List Int)} : rowB fr nest 1 cLIN l = rowB fr nest 1 cLIN m ↔ l = m := rowB_eq ok_cLIN (by decide)
theorem sl_cY : SlOk Tryz.prog 22 cY := ⟨5, 1, by kernel_rfl, by kernel_rfl, ok_cY⟩
theorem rt_cY : RowT Tryz.prog 22 cY 1 1 := ⟨ok_cY, by decide, fun _ => rfl, ⟨5, [.sc (.int .u8 0)], by kernel_rfl, by kernel_rfl, by kernel_rfl, by kernel_rfl, rfl⟩⟩
theorem ag_cY : szT Tryz.prog 5 = some 1 ∧ aggT Tryz.prog 5 = some false := ⟨by kernel_rfl, by kernel_rfl⟩
theorem sl_cTerrain : SlOk Tryz.prog 24 cTerrain := ⟨115, 5, by kernel_rfl, by kernel_rfl, ok_cTerrain⟩
theorem rt_cTerrain : RowT Tryz.prog 24 cTerrain 5 64 := ⟨ok_cTerrain, by decide, fun _ => rfl, ⟨115, [S ByteArray.empty, .emp, I 0, I 0, B false], by kernel_rfl, by kernel_rfl, by kernel_rfl, by kernel_rfl, rfl⟩⟩
theorem ag_cTerrain : szT Tryz.prog 115 = some 5 ∧ aggT Tryz.prog 115 = some true := ⟨by kernel_rfl, by kernel_rfl⟩
theorem str_ok : isStrT Tryz.prog 9 = true := by kernel_rfl
theorem sl_cI : SlOk Tryz.prog 28 cI := ⟨3, 1, by kernel_rfl, by kernel_rfl, ok_cI⟩
theorem rt_cI : RowT Tryz.prog 28 cI 1 8 := ⟨ok_cI, by decide, fun _ => rfl, ⟨3, [I 0], by kernel_rfl, by kernel_rfl, by kernel_rfl, by kernel_rfl, rfl⟩⟩
theorem ag_cI : szT Tryz.prog 3 = some 1 ∧ aggT Tryz.prog 3 = some false := ⟨by kernel_rfl, by kernel_rfl⟩
theorem sl_cKind : SlOk Tryz.prog 25 cKind := ⟨119, 6, by kernel_rfl, by kernel_rfl, ok_cKind⟩
theorem rt_cKind : RowT Tryz.prog 25 cKind 6 56 := ⟨ok_cKind, by decide, fun _ => rfl, ⟨119, [S ByteArray.empty, I 0, I 0, I 0, B false, I 0], by kernel_rfl, by kernel_rfl, by kernel_rfl, by kernel_rfl, rfl⟩⟩
theorem ag_cKind : szT Tryz.prog 119 = some 6 ∧ aggT Tryz.prog 119 = some true := ⟨by kernel_rfl, by kernel_rfl⟩
theorem sl_cUnit : SlOk Tryz.prog 33 cUnit := ⟨65, 4, by kernel_rfl, by kernel_rfl, ok_cUnit⟩
theorem rt_cUnit : RowT Tryz.prog 33 cUnit 4 32 := ⟨ok_cUnit, by decide, fun _ => rfl, ⟨65, [I 0, I 0, I 0, I 0], by kernel_rfl, by kernel_rfl, by kernel_rfl, by kernel_rfl, rfl⟩⟩
theorem ag_cUnit : szT Tryz.prog 65 = some 4 ∧ aggT Tryz.prog 65 = some true := ⟨by kernel_rfl, by kernel_rfl⟩
theorem sl_cLI : SlOk Tryz.prog 60 cLI := ⟨28, 1, by kernel_rfl, by kernel_rfl, ok_cLI⟩
theorem rt_cLI : RowT Tryz.prog 60 cLI 1 24 := ⟨ok_cLI, by decide, fun _ => rfl, ⟨28, [.emp], by kernel_rfl, by kernel_rfl, by kernel_rfl, by kernel_rfl, rfl⟩⟩
theorem ag_cLI : szT Tryz.prog 28 = some 1 ∧ aggT Tryz.prog 28 = some false := ⟨by kernel_rfl, by kernel_rfl⟩
theorem sl_cA2I : SlOk Tryz.prog 88 cA2I := ⟨91, 2, by kernel_rfl, by kernel_rfl, ok_cA2I⟩
theorem rt_cA2I : RowT Tryz.prog 88 cA2I 2 16 := ⟨ok_cA2I, by decide, fun _ => rfl, ⟨91, [I 0, I 0], by kernel_rfl, by kernel_rfl, by kernel_rfl, by kernel_rfl, rfl⟩⟩
theorem ag_cA2I : szT Tryz.prog 91 = some 2 ∧ aggT Tryz.prog 91 = some true := ⟨by kernel_rfl, by kernel_rfl⟩
theorem ar_cA2I : arT Tryz.prog 91 = some (2, 3) ∧ szT Tryz.prog 3 = some 1 ∧ slT Tryz.prog 91 = none := ⟨by kernel_rfl, by kernel_rfl, by kernel_rfl⟩
theorem sl_cAttempt : SlOk Tryz.prog 108 cAttempt := ⟨110, 3, by kernel_rfl, by kernel_rfl, ok_cAttempt⟩
theorem rt_cAttempt : RowT Tryz.prog 108 cAttempt 3 24 := ⟨ok_cAttempt, by decide, fun _ => rfl, ⟨110, [I 0, I 0, I 0], by kernel_rfl, by kernel_rfl, by kernel_rfl, by kernel_rfl, rfl⟩⟩
theorem ag_cAttempt : szT Tryz.prog 110 = some 3 ∧ aggT Tryz.prog 110 = some true := ⟨by kernel_rfl, by kernel_rfl⟩
theorem sl_cS : SlOk Tryz.prog 139 cS := ⟨9, 1, by kernel_rfl, by kernel_rfl, ok_cS⟩
theorem rt_cS : RowT Tryz.prog 139 cS 1 16 := ⟨ok_cS, by decide, fun _ => rfl, ⟨9, [S ByteArray.empty], by kernel_rfl, by kernel_rfl, by kernel_rfl, by kernel_rfl, rfl⟩⟩
theorem ag_cS : szT Tryz.prog 9 = some 1 ∧ aggT Tryz.prog 9 = some false := ⟨by kernel_rfl, by kernel_rfl⟩
theorem ar_cA6Hex : arT Tryz.prog 103 = some (6, 99) ∧ szT Tryz.prog 99 = some 2 ∧ slT Tryz.prog 103 = none := ⟨by kernel_rfl, by kernel_rfl, by kernel_rfl⟩
end Go.Ev
