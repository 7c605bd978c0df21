/-
 Ed: one of the texts behind a proof of laws.FnAdvances: the program's types as data
 Its conditions: none of its own.
-/
import Derived.Test.YtollnbaidgncgaaGreatDoorEc
import Derived.Test.YtollnbaidgncgaaGreatDoorProg
import Derived.KernelRfl
set_option maxRecDepth 100000
set_option linter.unusedVariables false
set_option linter.unusedSectionVars false
set_option linter.unusedSimpArgs false
set_option linter.unnecessarySimpa false
namespace Go.Ev
open Go Go.Proofs
abbrev I (n : Int) : AV := .sc (.int .i64 n)
abbrev K (k : IntKind) (n : Int) : AV := .sc (.int k n)
abbrev B (b : Bool) : AV := .sc (.bool b)
abbrev S (s : ByteArray) : AV := .sc (.string s)
def cI (n : Int) : List AV := [I n]
def cU64 (n : Int) : List AV := [K .u64 n]
def cI32 (n : Int) : List AV := [K .i32 n]
def cU32 (n : Int) : List AV := [K .u32 n]
def cB (b : Bool) : List AV := [B b]
def cS (s : ByteArray) : List AV := [S s]
structure KSl where
 A : Option Addr
 n : Nat
 k : Nat
def Kn (x : KSl) : AV := .sc (.slice x.A x.n x.k)
@[simp] theorem Kn_eq (a b : KSl) : Kn a = Kn b ↔ a = b := by
 obtain ⟨_, _, _⟩ := a
 obtain ⟨_, _, _⟩ := b
 simp [Kn]
def cLY (l : List UInt8) : List AV := [slc cY l]
def cLI (l : List Int) : List AV := [slc cI l]
structure DTerrain where
 Name : ByteArray
 Cost : List Int
 Shift : Int
 Height : Int
 Blocks : Bool
def cTerrain (x : DTerrain) : List AV := [S x.Name, slc cI x.Cost, I x.Shift, I x.Height, B x.Blocks]
def cLTerrain (l : List DTerrain) : List AV := [slc cTerrain l]
structure DKind where
 Name : ByteArray
 Strength : Int
 Moves : Int
 Steps : Int
 Zone : Bool
 View : Int
def cKind (x : DKind) : List AV := [S x.Name, I x.Strength, I x.Moves, I x.Steps, B x.Zone, I x.View]
def cLKind (l : List DKind) : List AV := [slc cKind l]
structure DRules where
 Terrains : List DTerrain
 Kinds : List DKind
 Stack : Int
 River : Int
 Road : Int
 Supply : Int
 Turns : Int
def cRules (x : DRules) : List AV := [slc cTerrain x.Terrains, slc cKind x.Kinds, I x.Stack, I x.River, I x.Road, I x.Supply, I x.Turns]
structure DMap where
 Width : Int
 Height : Int
 Terrain : List Int
 Rivers : List Int
 Roads : List Int
def cMap (x : DMap) : List AV := [I x.Width, I x.Height, slc cI x.Terrain, slc cI x.Rivers, slc cI x.Roads]
structure DBoard where
 Rules : DRules
 Map : DMap
def cBoard (x : DBoard) : List AV := [slc cTerrain x.Rules.Terrains, slc cKind x.Rules.Kinds, I x.Rules.Stack, I x.Rules.River, I x.Rules.Road, I x.Rules.Supply, I x.Rules.Turns, I x.Map.Width, I x.Map.Height, slc cI x.Map.Terrain, slc cI x.Map.Rivers, slc cI x.Map.Roads]
structure DUnit where
 Side : Int
 Kind : Int
 At : Int
 Steps : Int
def cUnit (x : DUnit) : List AV := [I x.Side, I x.Kind, I x.At, I x.Steps]
def cLUnit (l : List DUnit) : List AV := [slc cUnit l]
structure DState where
 Turn : Int
 Weather : Int
 Units : List DUnit
def cState (x : DState) : List AV := [I x.Turn, I x.Weather, slc cUnit x.Units]
structure Dl1Cur where
 code_ : KSl
 at_ : Int
 seed_ : Int
def cl1Cur (x : Dl1Cur) : List AV := [Kn x.code_, I x.at_, K .u64 x.seed_]
def cLLI (l : List (List Int)) : List AV := [slc cLI l]
structure A2I where
 a0 : Int
 a1 : Int
def cA2I (x : A2I) : List AV := [I x.a0, I x.a1]
def cLA2I (l : List A2I) : List AV := [slc cA2I l]
structure DHex where
 Q : Int
 R : Int
def cHex (x : DHex) : List AV := [I x.Q, I x.R]
structure DAttempt where
 Unit : Int
 From_ : Int
 To : Int
def cAttempt (x : DAttempt) : List AV := [I x.Unit, I x.From_, I x.To]
def cLAttempt (l : List DAttempt) : List AV := [slc cAttempt l]
structure A6Hex where
 a0 : DHex
 a1 : DHex
 a2 : DHex
 a3 : DHex
 a4 : DHex
 a5 : DHex
def cA6Hex (x : A6Hex) : List AV := [I x.a0.Q, I x.a0.R, I x.a1.Q, I x.a1.R, I x.a2.Q, I x.a2.R, I x.a3.Q, I x.a3.R, I x.a4.Q, I x.a4.R, I x.a5.Q, I x.a5.R]
def cLS (l : List ByteArray) : List AV := [slc cS l]
def tblAt : List (TypeId × TE) → TypeId → Option TE
 | [], _ => none
 | (a, e) :: r, t => bif Nat.beq a t then some e else tblAt r t
def tLY : TE := ⟨List UInt8, false, cLY⟩
def tY : TE := ⟨UInt8, false, cY⟩
def tB : TE := ⟨Bool, false, cB⟩
def tBoard : TE := ⟨DBoard, true, cBoard⟩
def tRules : TE := ⟨DRules, true, cRules⟩
def tLTerrain : TE := ⟨List DTerrain, false, cLTerrain⟩
def tTerrain : TE := ⟨DTerrain, true, cTerrain⟩
def tS : TE := ⟨ByteArray, false, cS⟩
def tLI : TE := ⟨List Int, false, cLI⟩
def tI : TE := ⟨Int, false, cI⟩
def tLKind : TE := ⟨List DKind, false, cLKind⟩
def tKind : TE := ⟨DKind, true, cKind⟩
def tMap : TE := ⟨DMap, true, cMap⟩
def tState : TE := ⟨DState, true, cState⟩
def tLUnit : TE := ⟨List DUnit, false, cLUnit⟩
def tUnit : TE := ⟨DUnit, true, cUnit⟩
def tl1Cur : TE := ⟨Dl1Cur, true, cl1Cur⟩
def tU64 : TE := ⟨Int, false, cU64⟩
def tLLI : TE := ⟨List (List Int), false, cLLI⟩
def tLA2I : TE := ⟨List A2I, false, cLA2I⟩
def tA2I : TE := ⟨A2I, true, cA2I⟩
def tHex : TE := ⟨DHex, true, cHex⟩
def tLAttempt : TE := ⟨List DAttempt, false, cLAttempt⟩
def tAttempt : TE := ⟨DAttempt, true, cAttempt⟩
def tA6Hex : TE := ⟨A6Hex, true, cA6Hex⟩
def tLS : TE := ⟨List ByteArray, false, cLS⟩
def tbl : Tbl := tblAt [(22, tLY), (5, tY), (4, tB), (32, tBoard), (31, tBoard), (27, tRules), (26, tRules), (24, tLTerrain), (117, tTerrain), (116, tTerrain), (9, tS), (28, tLI), (3, tI), (25, tLKind), (121, tKind), (120, tKind), (30, tMap), (29, tMap), (35, tState), (34, tState), (33, tLUnit), (44, tUnit), (43, tUnit), (59, tl1Cur), (58, tl1Cur), (57, tU64), (77, tLLI), (94, tLA2I), (96, tA2I), (80, tHex), (79, tHex), (113, tLAttempt), (115, tAttempt), (114, tAttempt), (81, tA6Hex), (143, tLS)]
def rowAt : List ((Nat × Nat) × Nat) → Nat → Nat → Option TypeId
 | [], _, _ => none
 | (a, h) :: r, f, i => bif Nat.beq a.1 f && Nat.beq a.2 i then some h else rowAt r f i
def rowTab : List ((Nat × Nat) × Nat) := [((3, 0), 5), ((3, 1), 5), ((3, 7), 3), ((3, 37), 3), ((3, 39), 3), ((3, 41), 5), ((3, 42), 5), ((3, 45), 5), ((3, 49), 3), ((3, 54), 3), ((3, 63), 3), ((3, 90), 3), ((3, 97), 44), ((3, 106), 44), ((3, 129), 5), ((3, 160), 5), ((3, 191), 3), ((3, 198), 3), ((3, 229), 3), ((3, 230), 3), ((3, 200005), 117), ((3, 300005), 121), ((3, 400005), 3), ((3, 500005), 3), ((3, 600005), 3), ((3, 200006), 44), ((3, 200009), 44), ((3, 200012), 44), ((3, 200020), 117), ((3, 300020), 121), ((3, 400020), 3), ((3, 500020), 3), ((3, 600020), 3), ((3, 200021), 44), ((3, 200028), 117), ((3, 300028), 121), ((3, 400028), 3), ((3, 500028), 3), ((3, 600028), 3), ((3, 200029), 44), ((4, 0), 5), ((4, 1), 5), ((4, 5), 5), ((4, 9), 5), ((4, 11), 5), ((5, 0), 5), ((5, 4), 3), ((5, 10), 5), ((5, 23), 3), ((5, 200002), 117), ((5, 300002), 121), ((5, 400002), 3), ((5, 500002), 3), ((5, 600002), 3), ((5, 200003), 44), ((5, 200012), 5), ((5, 200007), 117), ((5, 300007), 121), ((5, 400007), 3), ((5, 500007), 3), ((5, 600007), 3), ((5, 200008), 44), ((6, 2), 3), ((6, 15), 3), ((6, 29), 3), ((6, 200004), 117), ((6, 300004), 121), ((6, 400004), 3), ((6, 500004), 3), ((6, 600004), 3), ((6, 200005), 44), ((6, 200008), 44), ((6, 200011), 44), ((7, 2), 3), ((7, 15), 3), ((7, 31), 3), ((7, 200004), 117), ((7, 300004), 121), ((7, 400004), 3), ((7, 500004), 3), ((7, 600004), 3), ((7, 200005), 44), ((7, 200008), 44), ((7, 200011), 44), ((8, 20), 44), ((8, 23), 44), ((8, 28), 44), ((8, 34), 44), ((8, 39), 44), ((8, 200002), 44), ((8, 200003), 44), ((9, 200002), 117), ((9, 300002), 121), ((9, 400002), 3), ((9, 500002), 3), ((9, 600002), 3), ((9, 200003), 44), ((10, 0), 5), ((10, 11), 5), ((10, 31), 44), ((10, 200002), 117), ((10, 300002), 121), ((10, 400002), 3), ((10, 500002), 3), ((10, 600002), 3), ((10, 200003), 44), ((10, 200013), 5), ((10, 200007), 117), ((10, 300007), 121), ((10, 400007), 3), ((10, 500007), 3), ((10, 600007), 3), ((10, 200008), 44), ((11, 25), 44), ((11, 200004), 117), ((11, 300004), 121), ((11, 400004), 3), ((11, 500004), 3), ((11, 600004), 3), ((11, 200005), 44), ((12, 200004), 117), ((12, 300004), 121), ((12, 400004), 3), ((12, 500004), 3), ((12, 600004), 3), ((12, 200005), 44), ((13, 0), 5), ((13, 5), 5), ((13, 200002), 117), ((13, 300002), 121), ((13, 400002), 3), ((13, 500002), 3), ((13, 600002), 3), ((13, 200003), 44), ((14, 16), 28), ((14, 200003), 117), ((14, 300003), 121), ((14, 400003), 3), ((14, 500003), 3), ((14, 600003), 3), ((14, 200004), 44), ((15, 16), 28), ((15, 200003), 117), ((15, 300003), 121), ((15, 400003), 3), ((15, 500003), 3), ((15, 600003), 3), ((15, 200004), 44), ((16, 20), 28), ((16, 200004), 117), ((16, 300004), 121), ((16, 400004), 3), ((16, 500004), 3), ((16, 600004), 3), ((16, 200005), 44), ((17, 6), 3), ((17, 8), 3), ((17, 15), 3), ((17, 25), 44), ((17, 33), 3), ((17, 35), 3), ((17, 36), 3), ((17, 38), 3), ((17, 200003), 117), ((17, 300003), 121), ((17, 400003), 3), ((17, 500003), 3), ((17, 600003), 3), ((17, 200004), 44), ((18, 6), 3), ((18, 8), 3), ((18, 23), 44), ((18, 30), 3), ((18, 32), 3), ((18, 33), 3), ((18, 34), 3), ((18, 200003), 117), ((18, 300003), 121), ((18, 400003), 3), ((18, 500003), 3), ((18, 600003), 3), ((18, 200004), 44), ((19, 0), 3), ((19, 1), 3), ((19, 6), 3), ((19, 8), 3), ((19, 11), 3), ((19, 16), 3), ((19, 20), 3), ((20, 16), 44), ((20, 21), 44), ((20, 26), 44), ((20, 38), 44), ((20, 47), 44), ((20, 49), 3), ((20, 200002), 117), ((20, 300002), 121), ((20, 400002), 3), ((20, 500002), 3), ((20, 600002), 3), ((20, 200003), 44), ((20, 200005), 117), ((20, 300005), 121), ((20, 400005), 3), ((20, 500005), 3), ((20, 600005), 3), ((20, 200006), 44), ((20, 100055), 44), ((21, 4), 3), ((21, 5), 3), ((21, 9), 44), ((21, 23), 3), ((21, 25), 3), ((21, 26), 3), ((21, 30), 3), ((21, 32), 44), ((21, 34), 3), ((21, 35), 3), ((21, 36), 3), ((21, 200003), 44), ((22, 10), 3), ((22, 200003), 3), ((22, 300003), 3), ((22, 400003), 3), ((23, 2), 3), ((23, 12), 3), ((23, 16), 3), ((23, 200003), 117), ((23, 300003), 121), ((23, 400003), 3), ((23, 500003), 3), ((23, 600003), 3), ((23, 200004), 44), ((25, 5), 3), ((25, 200001), 117), ((25, 300001), 121), ((25, 400001), 3), ((25, 500001), 3), ((25, 600001), 3), ((26, 2), 3), ((26, 16), 3), ((26, 25), 44), ((26, 32), 44), ((26, 200004), 117), ((26, 300004), 121), ((26, 400004), 3), ((26, 500004), 3), ((26, 600004), 3), ((26, 200005), 44), ((26, 200008), 44), ((26, 100015), 44), ((26, 200010), 44), ((27, 2), 3), ((27, 14), 3), ((27, 16), 44), ((27, 22), 3), ((27, 29), 44), ((27, 200003), 117), ((27, 300003), 121), ((27, 400003), 3), ((27, 500003), 3), ((27, 600003), 3), ((27, 200004), 44), ((29, 200001), 3), ((29, 300001), 3), ((29, 400001), 3), ((30, 2), 3), ((30, 15), 3), ((30, 22), 44), ((30, 36), 44), ((30, 200004), 117), ((30, 300004), 121), ((30, 400004), 3), ((30, 500004), 3), ((30, 600004), 3), ((30, 200005), 44), ((30, 200008), 44), ((30, 100014), 44), ((31, 15), 3), ((31, 200001), 117), ((31, 300001), 121), ((31, 400001), 3), ((31, 500001), 3), ((31, 600001), 3), ((32, 5), 96), ((32, 23), 44), ((32, 29), 96), ((32, 31), 44), ((32, 44), 96), ((32, 55), 96), ((32, 66), 96), ((32, 200002), 117), ((32, 300002), 121), ((32, 400002), 3), ((32, 500002), 3), ((32, 600002), 3), ((32, 200003), 44), ((33, 13), 44), ((33, 20), 44), ((33, 200003), 117), ((33, 300003), 121), ((33, 400003), 3), ((33, 500003), 3), ((33, 600003), 3), ((33, 200004), 44), ((35, 200003), 3), ((35, 300003), 3), ((35, 400003), 3), ((37, 13), 44), ((37, 200003), 117), ((37, 300003), 121), ((37, 400003), 3), ((37, 500003), 3), ((37, 600003), 3), ((37, 200004), 44), ((38, 200004), 117), ((38, 300004), 121), ((38, 400004), 3), ((38, 500004), 3), ((38, 600004), 3), ((38, 200005), 44), ((39, 12), 44), ((39, 200004), 117), ((39, 300004), 121), ((39, 400004), 3), ((39, 500004), 3), ((39, 600004), 3), ((39, 200005), 44), ((40, 0), 5), ((40, 6), 5), ((40, 200002), 117), ((40, 300002), 121), ((40, 400002), 3), ((40, 500002), 3), ((40, 600002), 3), ((40, 200003), 44), ((40, 200008), 5), ((41, 8), 28), ((41, 13), 44), ((41, 19), 3), ((41, 20), 28), ((41, 200004), 117), ((41, 300004), 121), ((41, 400004), 3), ((41, 500004), 3), ((41, 600004), 3), ((41, 200005), 44), ((41, 100020), 28), ((42, 8), 28), ((42, 13), 44), ((42, 19), 28), ((42, 200004), 117), ((42, 300004), 121), ((42, 400004), 3), ((42, 500004), 3), ((42, 600004), 3), ((42, 200005), 44), ((43, 200004), 117), ((43, 300004), 121), ((43, 400004), 3), ((43, 500004), 3), ((43, 600004), 3), ((43, 200005), 44), ((44, 14), 44), ((44, 30), 3), ((44, 37), 44), ((44, 200004), 117), ((44, 300004), 121), ((44, 400004), 3), ((44, 500004), 3), ((44, 600004), 3), ((44, 200005), 44), ((45, 200003), 3), ((45, 300003), 3), ((45, 400003), 3), ((46, 16), 44), ((46, 41), 3), ((46, 57), 3), ((46, 200005), 117), ((46, 300005), 121), ((46, 400005), 3), ((46, 500005), 3), ((46, 600005), 3), ((46, 200006), 44), ((47, 18), 3), ((47, 31), 44), ((47, 38), 44), ((47, 47), 44), ((47, 48), 44), ((47, 55), 44), ((47, 57), 44), ((47, 200002), 117), ((47, 300002), 121), ((47, 400002), 3), ((47, 500002), 3), ((47, 600002), 3), ((47, 200003), 44), ((47, 200004), 117), ((47, 300004), 121), ((47, 400004), 3), ((47, 500004), 3), ((47, 600004), 3), ((47, 100023), 44), ((47, 200005), 44), ((48, 1), 3), ((48, 5), 3), ((48, 7), 3), ((49, 200002), 117), ((49, 300002), 121), ((49, 400002), 3), ((49, 500002), 3), ((49, 600002), 3), ((49, 200003), 44), ((49, 200004), 117), ((49, 300004), 121), ((49, 400004), 3), ((49, 500004), 3), ((49, 600004), 3), ((49, 100010), 44), ((51, 200002), 117), ((51, 300002), 121), ((51, 400002), 3), ((51, 500002), 3), ((51, 600002), 3), ((51, 200003), 44), ((52, 0), 3), ((52, 5), 3), ((52, 10), 3), ((52, 15), 3), ((53, 0), 3), ((53, 5), 3), ((56, 4), 44), ((56, 5), 44), ((56, 200001), 44), ((56, 200002), 44), ((56, 100005), 44), ((57, 29), 44), ((57, 34), 44), ((57, 46), 44), ((57, 62), 3), ((57, 71), 3), ((57, 200002), 117), ((57, 300002), 121), ((57, 400002), 3), ((57, 500002), 3), ((57, 600002), 3), ((57, 200003), 44), ((58, 0), 3), ((58, 9), 3), ((58, 25), 3), ((59, 1), 115), ((59, 12), 44), ((59, 14), 44), ((59, 15), 44), ((59, 17), 115), ((59, 24), 44), ((59, 200002), 44), ((59, 200004), 44), ((59, 200005), 44), ((60, 8), 117), ((60, 14), 121), ((60, 20), 117), ((60, 29), 121), ((60, 35), 117), ((60, 44), 121), ((60, 56), 121), ((60, 200001), 117), ((60, 300001), 121), ((60, 200004), 3), ((61, 6), 3), ((61, 21), 3), ((61, 31), 3), ((61, 42), 3), ((61, 44), 3), ((61, 45), 28), ((61, 50), 3), ((61, 51), 3), ((61, 54), 3), ((61, 200001), 3), ((61, 300001), 3), ((61, 400001), 3), ((62, 7), 117), ((63, 14), 121), ((63, 24), 121), ((63, 200002), 117), ((63, 300002), 121), ((63, 400002), 3), ((63, 500002), 3), ((63, 600002), 3), ((64, 200002), 3), ((64, 300002), 3), ((64, 400002), 3), ((65, 7), 3), ((65, 14), 3), ((66, 200002), 3), ((66, 300002), 3), ((66, 400002), 3), ((67, 11), 5), ((67, 17), 5), ((67, 51), 5), ((68, 13), 44), ((68, 200003), 117), ((68, 300003), 121), ((68, 400003), 3), ((68, 500003), 3), ((68, 600003), 3), ((68, 200004), 44), ((69, 200003), 3), ((69, 300003), 3), ((69, 400003), 3), ((70, 35), 3), ((70, 53), 3), ((70, 200005), 117), ((70, 300005), 121), ((70, 400005), 3), ((70, 500005), 3), ((70, 600005), 3), ((71, 20), 3), ((71, 200004), 117), ((71, 300004), 121), ((71, 400004), 3), ((71, 500004), 3), ((71, 600004), 3), ((71, 200005), 44), ((72, 200005), 117), ((72, 300005), 121), ((72, 400005), 3), ((72, 500005), 3), ((72, 600005), 3), ((73, 13), 3), ((73, 20), 3), ((73, 200004), 117), ((73, 300004), 121), ((73, 400004), 3), ((73, 500004), 3), ((73, 600004), 3), ((73, 200005), 44), ((74, 5), 3), ((74, 6), 28), ((74, 14), 28), ((74, 21), 44), ((74, 32), 44), ((74, 40), 28), ((74, 41), 3), ((74, 42), 3), ((74, 43), 28), ((74, 44), 28), ((74, 45), 28), ((74, 81), 3), ((74, 82), 3), ((74, 84), 3), ((74, 85), 3), ((74, 86), 28), ((74, 87), 28), ((74, 89), 28), ((74, 200007), 117), ((74, 300007), 121), ((74, 400007), 3), ((74, 500007), 3), ((74, 600007), 3), ((74, 200008), 44), ((74, 100042), 3), ((74, 100082), 3), ((74, 100087), 28), ((75, 5), 3), ((75, 12), 28), ((75, 14), 28), ((75, 19), 44), ((75, 31), 3), ((75, 32), 3), ((75, 33), 28), ((75, 69), 28), ((75, 76), 3), ((75, 77), 3), ((75, 79), 3), ((75, 80), 3), ((75, 81), 28), ((75, 82), 28), ((75, 83), 28), ((75, 200006), 117), ((75, 300006), 121), ((75, 400006), 3), ((75, 500006), 3), ((75, 600006), 3), ((75, 200007), 44), ((75, 100032), 3), ((75, 100077), 3), ((76, 10), 3), ((76, 200003), 117), ((76, 300003), 121), ((76, 400003), 3), ((76, 500003), 3), ((76, 600003), 3), ((77, 4), 3), ((77, 5), 3), ((77, 8), 3), ((77, 10), 44), ((77, 21), 3), ((77, 23), 3), ((77, 24), 3), ((77, 26), 3), ((77, 200002), 44), ((78, 12), 44), ((78, 200004), 117), ((78, 300004), 121), ((78, 400004), 3), ((78, 500004), 3), ((78, 600004), 3), ((78, 200005), 44), ((79, 200002), 3), ((79, 300002), 3), ((79, 400002), 3), ((81, 200002), 3), ((81, 300002), 3), ((81, 400002), 3), ((82, 10), 3), ((82, 200003), 117), ((82, 300003), 121), ((82, 400003), 3), ((82, 500003), 3), ((82, 600003), 3), ((83, 6), 3), ((83, 7), 3), ((83, 11), 44), ((83, 28), 3), ((83, 30), 3), ((83, 31), 3), ((83, 33), 3), ((83, 200003), 44), ((84, 13), 3), ((84, 200004), 117), ((84, 300004), 121), ((84, 400004), 3), ((84, 500004), 3), ((84, 600004), 3), ((84, 200005), 44), ((85, 9), 117), ((85, 200002), 117), ((85, 300002), 121), ((85, 400002), 3), ((85, 500002), 3), ((85, 600002), 3), ((85, 100005), 117), ((85, 200005), 121), ((85, 200003), 117), ((85, 300003), 121), ((85, 100011), 3), ((85, 200011), 3), ((85, 300011), 3), ((86, 30), 121), ((86, 37), 121), ((86, 55), 44), ((86, 57), 44), ((86, 58), 44), ((86, 65), 44), ((86, 67), 44), ((86, 200003), 117), ((86, 300003), 121), ((86, 400003), 3), ((86, 500003), 3), ((86, 600003), 3), ((86, 200004), 44), ((86, 200005), 44), ((87, 200002), 117), ((87, 300002), 121), ((87, 400002), 3), ((87, 500002), 3), ((87, 600002), 3), ((87, 200003), 117), ((87, 300003), 121), ((87, 400003), 3), ((87, 500003), 3), ((87, 600003), 3), ((88, 11), 44), ((88, 18), 44), ((88, 33), 3), ((88, 39), 3), ((88, 45), 44), ((88, 51), 3), ((88, 58), 44), ((88, 61), 3), ((88, 68), 44), ((88, 71), 3), ((88, 78), 44), ((88, 85), 44), ((88, 87), 44), ((88, 88), 44), ((88, 200003), 117), ((88, 300003), 121), ((88, 400003), 3), ((88, 500003), 3), ((88, 600003), 3), ((88, 200004), 44), ((88, 100015), 44), ((88, 200005), 44), ((89, 0), 3), ((89, 6), 3), ((89, 12), 3), ((90, 0), 44), ((90, 2), 44), ((90, 3), 44), ((90, 5), 44), ((90, 6), 44), ((90, 7), 44), ((91, 14), 3), ((91, 17), 117), ((91, 200001), 117), ((91, 300001), 121), ((91, 400001), 3), ((91, 500001), 3), ((91, 600001), 3), ((92, 14), 121), ((92, 25), 121), ((92, 200002), 117), ((92, 300002), 121), ((92, 400002), 3), ((92, 500002), 3), ((92, 600002), 3), ((93, 11), 3), ((93, 29), 3), ((93, 200002), 3), ((94, 0), 117), ((94, 5), 117), ((96, 0), 121), ((96, 5), 121), ((97, 200002), 3), ((97, 300002), 3), ((97, 400002), 3), ((99, 200003), 3), ((99, 300003), 3), ((99, 400003), 3), ((100, 0), 3), ((100, 5), 3), ((102, 8), 44), ((102, 200002), 44), ((103, 8), 3), ((103, 200003), 3), ((103, 300003), 3), ((103, 400003), 3), ((105, 8), 3), ((105, 200003), 3), ((105, 300003), 3), ((105, 400003), 3), ((106, 0), 3), ((106, 2), 3), ((106, 3), 3), ((106, 5), 3), ((106, 6), 3), ((106, 7), 3), ((108, 0), 3), ((108, 2), 3), ((108, 3), 3), ((108, 4), 3), ((108, 5), 3), ((110, 7), 117), ((110, 10), 3), ((110, 200002), 117), ((110, 300002), 121), ((110, 400002), 3), ((110, 500002), 3), ((110, 600002), 3), ((110, 200004), 3), ((111, 14), 121), ((111, 200003), 117), ((111, 300003), 121), ((111, 400003), 3), ((111, 500003), 3), ((111, 600003), 3), ((112, 7), 117), ((112, 10), 3), ((112, 200002), 117), ((112, 300002), 121), ((112, 400002), 3), ((112, 500002), 3), ((112, 600002), 3), ((112, 200004), 3), ((113, 8), 3), ((113, 9), 3), ((113, 13), 44), ((113, 31), 3), ((113, 33), 3), ((113, 34), 3), ((113, 36), 3), ((113, 200004), 117), ((113, 300004), 121), ((113, 400004), 3), ((113, 500004), 3), ((113, 600004), 3), ((113, 200005), 44), ((114, 3), 121), ((114, 5), 9), ((114, 43), 121), ((114, 44), 121), ((114, 48), 121), ((114, 61), 9), ((114, 70), 9), ((114, 73), 9), ((114, 93), 121), ((114, 102), 3), ((114, 104), 3), ((114, 105), 3), ((114, 109), 117), ((114, 111), 117), ((114, 112), 117), ((114, 200002), 117), ((114, 300002), 121), ((114, 200004), 117), ((114, 300004), 121), ((114, 200007), 3), ((115, 27), 3), ((115, 29), 3), ((115, 30), 3), ((115, 34), 3), ((115, 38), 3), ((115, 200004), 3), ((115, 300004), 3), ((115, 400004), 3), ((115, 200005), 3), ((115, 300005), 3), ((115, 400005), 3), ((115, 100034), 3), ((115, 100038), 3), ((116, 11), 117), ((116, 14), 3), ((116, 16), 3), ((116, 22), 117), ((116, 24), 9), ((116, 31), 121), ((116, 33), 3), ((116, 40), 121), ((116, 42), 121), ((116, 45), 121), ((116, 46), 121), ((116, 51), 3), ((116, 57), 3), ((116, 63), 117), ((116, 65), 3), ((116, 200002), 117), ((116, 300002), 121), ((116, 100005), 117), ((116, 200005), 121), ((116, 200003), 117), ((116, 300003), 121), ((117, 14), 3), ((117, 20), 3), ((117, 22), 3), ((117, 28), 3), ((117, 37), 3), ((117, 39), 3), ((117, 40), 3), ((117, 44), 3), ((117, 46), 3), ((117, 47), 3), ((117, 200002), 3), ((117, 300002), 3), ((117, 400002), 3), ((117, 100005), 3), ((117, 200005), 3), ((117, 300005), 3), ((117, 200003), 3), ((117, 300003), 3), ((117, 400003), 3), ((118, 8), 117), ((118, 14), 121), ((118, 20), 117), ((118, 33), 117), ((118, 42), 3), ((118, 45), 121), ((118, 51), 3), ((118, 69), 121), ((118, 82), 121), ((118, 200001), 117), ((118, 300001), 121), ((118, 200004), 3), ((119, 13), 3), ((119, 21), 3), ((119, 27), 3), ((119, 33), 3), ((119, 200001), 3), ((119, 300001), 3), ((119, 400001), 3), ((120, 0), 3), ((120, 9), 3), ((123, 0), 117), ((123, 6), 117), ((123, 12), 117), ((124, 200002), 3), ((125, 0), 121), ((125, 6), 121), ((125, 12), 121), ((127, 0), 3), ((127, 6), 3), ((127, 12), 3), ((128, 0), 3), ((128, 7), 3), ((129, 200003), 3), ((129, 300003), 3), ((129, 400003), 3), ((132, 6), 3), ((132, 12), 3), ((132, 200002), 3), ((132, 300002), 3), ((132, 400002), 3), ((133, 12), 44), ((133, 22), 121), ((133, 200004), 117), ((133, 300004), 121), ((133, 400004), 3), ((133, 500004), 3), ((133, 600004), 3), ((133, 200005), 44), ((134, 4), 3), ((134, 5), 3), ((134, 26), 3), ((134, 31), 3), ((134, 32), 3), ((134, 200003), 3), ((134, 300003), 3), ((134, 400003), 3), ((134, 100031), 3), ((135, 1), 9), ((135, 5), 9), ((135, 7), 9), ((137, 0), 117), ((137, 7), 117), ((137, 200006), 3), ((138, 0), 121), ((138, 7), 121), ((139, 1), 3), ((139, 7), 3), ((139, 30), 3), ((139, 200002), 3), ((139, 300002), 3), ((139, 400002), 3), ((140, 0), 3), ((140, 4), 3), ((140, 6), 3), ((140, 8), 3), ((140, 12), 3), ((140, 22), 3), ((140, 26), 3), ((140, 33), 3), ((140, 34), 3), ((140, 35), 3), ((140, 37), 3), ((140, 38), 3), ((140, 39), 3), ((140, 41), 3), ((140, 42), 3), ((140, 43), 3), ((140, 44), 3), ((140, 46), 3), ((140, 47), 3)]
def capAt : List (Nat × List (Option TypeId)) → Nat → List (Option TypeId)
 | [], _ => []
 | (a, h) :: r, f => bif Nat.beq a f then h else capAt r f
def ke49 : KE := ⟨DBoard × DState, fun a => .tup [.agg [slc cTerrain a.1.Rules.Terrains, slc cKind a.1.Rules.Kinds, I a.1.Rules.Stack, I a.1.Rules.River, I a.1.Rules.Road, I a.1.Rules.Supply, I a.1.Rules.Turns, I a.1.Map.Width, I a.1.Map.Height, slc cI a.1.Map.Terrain, slc cI a.1.Map.Rivers, slc cI a.1.Map.Roads], .agg [I a.2.Turn, I a.2.Weather, .own (.r 0 0) none 0 a.2.Units.length a.2.Units.length]], fun a => [(.r 0 0, some (rowB true false 4 cUnit a.2.Units))]⟩
def ke56 : KE := ⟨DState, fun a => .agg [I a.Turn, I a.Weather, .own (.r 0 0) none 0 a.Units.length a.Units.length], fun a => [(.r 0 0, some (rowB true false 4 cUnit a.Units))]⟩
def ke59 : KE := ⟨DState, fun a => .agg [I a.Turn, I a.Weather, .own (.r 0 0) none 0 a.Units.length a.Units.length], fun a => [(.r 0 0, some (rowB true false 4 cUnit a.Units))]⟩
def ke74 : KE := ⟨List (List Int), fun a => .own (.r 0 0) none 0 a.length a.length, fun a => [(.r 0 0, some (rowB true false 1 cLI a))]⟩
def ke86 : KE := ⟨DState, fun a => .agg [I a.Turn, I a.Weather, .own (.r 0 0) none 0 a.Units.length a.Units.length], fun a => [(.r 0 0, some (rowB true false 4 cUnit a.Units))]⟩
def ke88 : KE := ⟨DState, fun a => .agg [I a.Turn, I a.Weather, .own (.r 0 0) none 0 a.Units.length a.Units.length], fun a => [(.r 0 0, some (rowB true false 4 cUnit a.Units))]⟩
def ke90 : KE := ⟨List DUnit, fun a => .own (.r 0 0) none 0 a.length a.length, fun a => [(.r 0 0, some (rowB true false 4 cUnit a))]⟩
def ke106 : KE := ⟨List Int, fun a => .own (.r 0 0) none 0 a.length a.length, fun a => [(.r 0 0, some (rowB true false 1 cI a))]⟩
def ke108 : KE := ⟨List Int, fun a => .own (.r 0 0) none 0 a.length a.length, fun a => [(.r 0 0, some (rowB true false 1 cI a))]⟩
def cTerrainN (x : DTerrain) : List AV := [S x.Name, .nst 1 x.Cost.length (x.Cost.flatMap cI), I x.Shift, I x.Height, B x.Blocks]
def ke114 : KE := ⟨(DRules) × List DKind, fun a => .agg [.own (.r 0 0) none 0 a.1.Terrains.length a.1.Terrains.length, .own (.r 0 1) none 0 a.1.Kinds.length (a.1.Kinds.length + a.2.length), I a.1.Stack, I a.1.River, I a.1.Road, I a.1.Supply, I a.1.Turns], fun a => [(.r 0 0, some (rowB true true 5 cTerrainN a.1.Terrains)), (.r 0 1, some (rowB true false 6 cKind (a.1.Kinds ++ a.2)))]⟩
def ke115 : KE := ⟨DMap, fun a => .agg [I a.Width, I a.Height, .own (.r 0 0) none 0 a.Terrain.length a.Terrain.length, .own (.r 0 1) none 0 a.Rivers.length a.Rivers.length, .own (.r 0 2) none 0 a.Roads.length a.Roads.length], fun a => [(.r 0 0, some (rowB true false 1 cI a.Terrain)), (.r 0 1, some (rowB true false 1 cI a.Rivers)), (.r 0 2, some (rowB true false 1 cI a.Roads))]⟩
def ke134 : KE := ⟨List Int, fun a => .own (.r 0 0) none 0 a.length a.length, fun a => [(.r 0 0, some (rowB true false 1 cI a))]⟩
def ke140 : KE := ⟨List Int, fun a => .own (.r 0 0) none 0 a.length a.length, fun a => [(.r 0 0, some (rowB true false 1 cI a))]⟩
def kl140 : KE := ⟨Nat, fun a => .own (.l 0) none 0 a a, fun _ => []⟩
def tnTerrain : TE := ⟨DTerrain, true, cTerrainN⟩
def cLIN (x : List Int) : List AV := [.nst 1 x.length (x.flatMap cI)]
def tnLI : TE := ⟨List Int, false, cLIN⟩
def tblN : Tbl := tblAt [(117, tnTerrain), (116, tnTerrain), (28, tnLI)]
def T : Hn := { t := tbl, row := fun f id => match id with | .v t => rowAt rowTab f t | .h t k => (rowAt rowTab f (t + 100000 * (k + 1))).or (rowAt rowTab f t) | .r t k => (rowAt rowTab f (t + 100000 * (k + 1))).or (rowAt rowTab f t) | .l i => rowAt rowTab f i, n := tblN, cap := capAt [(54, [some 32, some 35]), (62, [some 32]), (124, [some 9]), (126, [some 9])], kept := fun f _ => bif Nat.beq f 49 then [ke49] else bif Nat.beq f 56 then [ke56] else bif Nat.beq f 59 then [ke59] else bif Nat.beq f 74 then [ke74] else bif Nat.beq f 86 then [ke86] else bif Nat.beq f 88 then [ke88] else bif Nat.beq f 90 then [ke90] else bif Nat.beq f 106 then [ke106] else bif Nat.beq f 108 then [ke108] else bif Nat.beq f 114 then [ke114] else bif Nat.beq f 115 then [ke115] else bif Nat.beq f 134 then [ke134] else bif Nat.beq f 140 then [kl140, ke140] else [] }
def hintAt : List ((Nat × Nat) × List (Nat × Option Nat)) → Nat → Nat → List (Nat × Option Nat)
 | [], _, _ => []
 | (a, h) :: r, f, i => bif Nat.beq a.1 f && Nat.beq a.2 i then h else hintAt r f i
def hints : List ((Nat × Nat) × List (Nat × Option Nat)) := [((3, 12), [(1, none), (6, none), (8, none), (12, none), (13, none), (15, none), (16, none), (17, none), (90, none), (91, none), (92, none)]), ((8, 4), [(2, none), (3, none), (29, none), (30, none)]), ((17, 5), [(2, none), (3, none), (4, none), (8, some 1), (16, none)]), ((18, 5), [(2, none), (3, none), (4, none), (8, some 1), (9, none)]), ((19, 4), [(0, none), (1, none), (12, none), (13, none)]), ((20, 4), [(0, none), (2, none), (3, none), (5, none), (6, none), (7, none), (8, none)]), ((21, 3), [(0, none), (3, none), (5, some 1), (9, none), (10, none), (11, none)]), ((26, 3), [(3, none), (4, none), (8, none), (10, none), (11, none), (16, none), (17, none), (18, none)]), ((27, 4), [(4, none), (22, none), (23, none), (24, none)]), ((30, 4), [(3, none), (4, none), (5, none), (8, none), (10, none), (15, none), (16, none), (17, none)]), ((32, 5), [(2, none), (5, none), (31, none), (32, none), (33, none)]), ((39, 3), [(3, none), (4, none), (5, none), (9, none), (10, none)]), ((44, 6), [(2, none), (3, none), (4, none), (5, none), (9, none), (10, none), (30, none), (31, none), (32, none)]), ((46, 8), [(2, none), (57, none), (58, none), (59, none)]), ((47, 6), [(0, none), (2, none), (3, none), (4, none), (5, none), (6, none), (1005002, some 4)]), ((52, 2), [(0, none), (3, none)]), ((57, 4), [(2, none), (3, none), (34, none), (35, none), (36, none)]), ((57, 10), [(2, none), (3, none), (46, none), (47, none), (48, none)]), ((58, 2), [(0, none), (1, none), (2, none), (9, none), (10, none), (11, none)]), ((59, 3), [(4, none), (5, none), (17, none), (18, none), (19, none)]), ((60, 4), [(1, none), (20, none), (21, none), (22, none)]), ((60, 10), [(1, none), (44, none), (45, none), (46, none)]), ((61, 4), [(1, none), (31, none), (32, none), (33, none)]), ((61, 10), [(1, none), (45, none), (46, none), (47, none)]), ((61, 15), [(1, none), (45, none), (46, none), (47, none), (54, none), (55, none), (56, none)]), ((69, 2), [(1, none), (2, none), (3, none), (8, none)]), ((74, 7), [(2, none), (3, none), (4, none), (5, none), (6, some 1), (7, none), (8, none), (15, none), (46, none)]), ((75, 8), [(2, none), (3, none), (4, none), (5, none), (6, none), (7, none), (13, none), (14, some 1), (15, none)]), ((77, 3), [(1, none), (5, some 1), (10, none), (11, none), (12, none)]), ((78, 2), [(2, none), (3, none), (4, none), (12, none), (13, none), (14, none)]), ((83, 3), [(1, none), (2, none), (7, some 1), (11, none), (12, none), (13, none)]), ((86, 3), [(0, none), (3, none), (4, none), (5, none), (6, none), (1005002, some 4)]), ((88, 17), [(0, none), (4, none), (5, none), (1005002, some 4)]), ((89, 2), [(0, none), (1, none), (7, none), (8, none)]), ((102, 2), [(1, none), (8, none), (9, none), (10, none)]), ((111, 4), [(2, none), (3, none), (4, none), (30, none)]), ((113, 3), [(2, none), (3, none), (4, none), (5, none), (9, some 1), (13, none), (14, none), (15, none)]), ((114, 5), [(0, none), (2, none), (4, none), (5, none), (6, none), (1004000, some 1005)]), ((114, 10), [(0, none), (2, none), (4, none), (5, none), (6, none), (7, none), (94, none), (95, none), (1007001, some 1)]), ((115, 3), [(0, none), (1, none), (4, none), (5, none), (6, none), (1005002, some 1)]), ((118, 4), [(1, none), (20, none), (21, none), (22, none)]), ((118, 10), [(1, none), (69, none), (70, none), (71, none)]), ((120, 2), [(1, none), (2, none), (9, none), (10, none), (11, none)]), ((121, 2), [(0, none), (3, none)]), ((123, 2), [(0, none), (1, none), (7, none), (8, none)]), ((125, 2), [(0, none), (1, none), (7, none), (8, none)]), ((127, 2), [(0, none), (1, none), (7, none), (8, none)]), ((128, 2), [(1, none), (7, none), (8, none), (9, none)]), ((133, 5), [(3, none), (4, none), (9, none), (10, none)]), ((134, 3), [(0, none), (3, none), (5, some 1), (6, none)]), ((136, 2), [(0, none), (3, none)]), ((137, 2), [(1, none), (7, none), (8, none), (9, none)]), ((138, 2), [(1, none), (7, none), (8, none), (9, none)]), ((139, 2), [(1, none), (2, none), (7, none), (8, none), (9, none)]), ((140, 2), [(0, none), (1, none), (5, none)]), ((90, 1000002), [(0, none)]), ((106, 1000002), [(0, none)]), ((49, 1000000), [(0, some 5), (1, some 6), (9, some 1), (10, some 1), (11, some 1), (102, some 4)]), ((56, 1000000), [(2, some 4)]), ((56, 1000001), [(0, none)]), ((59, 1000000), [(2, some 4)]), ((59, 1000001), [(0, none)]), ((74, 1000003), [(0, none)]), ((74, 1000000), [(0, some 1), (500000, some 1)]), ((86, 1000000), [(2, some 4)]), ((86, 1000001), [(0, none)]), ((88, 1000000), [(2, some 4)]), ((88, 1000001), [(0, none)]), ((90, 1000000), [(0, some 4)]), ((90, 1000001), [(0, none)]), ((106, 1000000), [(0, some 1)]), ((106, 1000001), [(0, none)]), ((108, 1000000), [(0, some 1)]), ((108, 1000001), [(0, none)]), ((114, 1000000), [(0, some 1005), (1, some 6)]), ((115, 1000000), [(2, some 1), (3, some 1), (4, some 1)]), ((115, 1000001), [(0, none)]), ((134, 1000000), [(0, some 1)]), ((134, 1000001), [(0, none)]), ((140, 1000000), [(0, some 1)]), ((140, 1000001), [(0, none)])]
variable [Inhabited Known]
noncomputable def G : Cfg := { kn := (default : Known).kn, P := Tryz.prog, glob := fun g => bif Nat.beq g 0 then some [I 1, I 0, I 1, I (-1), I 0, I (-1), I (-1), I 0, I (-1), I 1, I 0, I 1] else none, lend := fun f i => (Nat.beq f 140 && Nat.beq i 0) || (Nat.beq f 74 && Nat.beq i 6), keep := fun f => Nat.beq f 140 || Nat.beq f 134 || Nat.beq f 115 || Nat.beq f 114 || Nat.beq f 86 || Nat.beq f 88 || Nat.beq f 49 || Nat.beq f 56 || Nat.beq f 108 || Nat.beq f 74 || Nat.beq f 59 || Nat.beq f 90 || Nat.beq f 106, inl := fun f => Nat.beq f 114 || Nat.beq f 116, hint := hintAt hints }
end Go.Ev
namespace Go.Ev
open Go Go.Proofs
set_option linter.unusedSimpArgs false
theorem byte_inj (a b : UInt8) : ((a.toNat : Int) = (b.toNat : Int)) ↔ a = b := ⟨fun h => UInt8.toNat_inj.1 (by omega), fun h => h ▸ rfl⟩
theorem cY_eq (a b : UInt8) : cY a = cY b ↔ a = b := by simp [cY, byte_inj]
attribute [simp] cY_eq
theorem ok_cY : COk cY 1 := ⟨fun _ => rfl, fun a b h => (cY_eq a b).1 h⟩
@[simp] theorem rw_cY {fr nest : Bool} {l m : List UInt8} : rowB fr nest 1 cY l = rowB fr nest 1 cY m ↔ l = m := rowB_eq ok_cY (by decide)
@[simp] theorem slc_cY (l m : List UInt8) : slc cY l = slc cY m ↔ l = m := slc_eq ok_cY
theorem cLY_eq (a b : List UInt8) : cLY a = cLY b ↔ a = b := by simp [cLY, byte_inj]
attribute [simp] cLY_eq
theorem ok_cLY : COk cLY 1 := ⟨fun _ => rfl, fun a b h => (cLY_eq a b).1 h⟩
@[simp] theorem rw_cLY {fr nest : Bool} {l m : List (List UInt8)} : rowB fr nest 1 cLY l = rowB fr nest 1 cLY m ↔ l = m := rowB_eq ok_cLY (by decide)
@[simp] theorem slc_cLY (l m : List (List UInt8)) : slc cLY l = slc cLY m ↔ l = m := slc_eq ok_cLY
theorem cB_eq (a b : Bool) : cB a = cB b ↔ a = b := by simp [cB, byte_inj]
attribute [simp] cB_eq
theorem ok_cB : COk cB 1 := ⟨fun _ => rfl, fun a b h => (cB_eq a b).1 h⟩
@[simp] theorem rw_cB {fr nest : Bool} {l m : List Bool} : rowB fr nest 1 cB l = rowB fr nest 1 cB m ↔ l = m := rowB_eq ok_cB (by decide)
@[simp] theorem slc_cB (l m : List Bool) : slc cB l = slc cB m ↔ l = m := slc_eq ok_cB
theorem cS_eq (a b : ByteArray) : cS a = cS b ↔ a = b := by simp [cS, byte_inj]
attribute [simp] cS_eq
theorem ok_cS : COk cS 1 := ⟨fun _ => rfl, fun a b h => (cS_eq a b).1 h⟩
@[simp] theorem rw_cS {fr nest : Bool} {l m : List ByteArray} : rowB fr nest 1 cS l = rowB fr nest 1 cS m ↔ l = m := rowB_eq ok_cS (by decide)
@[simp] theorem slc_cS (l m : List ByteArray) : slc cS l = slc cS m ↔ l = m := slc_eq ok_cS
theorem cI_eq (a b : Int) : cI a = cI b ↔ a = b := by simp [cI, byte_inj]
attribute [simp] cI_eq
theorem ok_cI : COk cI 1 := ⟨fun _ => rfl, fun a b h => (cI_eq a b).1 h⟩
@[simp] theorem rw_cI {fr nest : Bool} {l m : List Int} : rowB fr nest 1 cI l = rowB fr nest 1 cI m ↔ l = m := rowB_eq ok_cI (by decide)
@[simp] theorem slc_cI (l m : List Int) : slc cI l = slc cI m ↔ l = m := slc_eq ok_cI
theorem cLI_eq (a b : List Int) : cLI a = cLI b ↔ a = b := by simp [cLI, byte_inj]
attribute [simp] cLI_eq
theorem ok_cLI : COk cLI 1 := ⟨fun _ => rfl, fun a b h => (cLI_eq a b).1 h⟩
@[simp] theorem rw_cLI {fr nest : Bool} {l m : List (List Int)} : rowB fr nest 1 cLI l = rowB fr nest 1 cLI m ↔ l = m := rowB_eq ok_cLI (by decide)
@[simp] theorem slc_cLI (l m : List (List Int)) : slc cLI l = slc cLI m ↔ l = m := slc_eq ok_cLI
theorem cTerrain_eq (a b : DTerrain) : cTerrain a = cTerrain b ↔ a = b := by
 obtain ⟨_, _, _, _, _⟩ := a
 obtain ⟨_, _, _, _, _⟩ := b
 simp [cTerrain, and_assoc, byte_inj]
attribute [simp] cTerrain_eq
theorem ok_cTerrain : COk cTerrain 5 := ⟨fun _ => rfl, fun a b h => (cTerrain_eq a b).1 h⟩
@[simp] theorem rw_cTerrain {fr nest : Bool} {l m : List DTerrain} : rowB fr nest 5 cTerrain l = rowB fr nest 5 cTerrain m ↔ l = m := rowB_eq ok_cTerrain (by decide)
@[simp] theorem slc_cTerrain (l m : List DTerrain) : slc cTerrain l = slc cTerrain m ↔ l = m := slc_eq ok_cTerrain
theorem cLTerrain_eq (a b : List DTerrain) : cLTerrain a = cLTerrain b ↔ a = b := by simp [cLTerrain, byte_inj]
attribute [simp] cLTerrain_eq
theorem ok_cLTerrain : COk cLTerrain 1 := ⟨fun _ => rfl, fun a b h => (cLTerrain_eq a b).1 h⟩
@[simp] theorem rw_cLTerrain {fr nest : Bool} {l m : List (List DTerrain)} : rowB fr nest 1 cLTerrain l = rowB fr nest 1 cLTerrain m ↔ l = m := rowB_eq ok_cLTerrain (by decide)
@[simp] theorem slc_cLTerrain (l m : List (List DTerrain)) : slc cLTerrain l = slc cLTerrain m ↔ l = m := slc_eq ok_cLTerrain
theorem cKind_eq (a b : DKind) : cKind a = cKind b ↔ a = b := by
 obtain ⟨_, _, _, _, _, _⟩ := a
 obtain ⟨_, _, _, _, _, _⟩ := b
 simp [cKind, and_assoc, byte_inj]
attribute [simp] cKind_eq
theorem ok_cKind : COk cKind 6 := ⟨fun _ => rfl, fun a b h => (cKind_eq a b).1 h⟩
@[simp] theorem rw_cKind {fr nest : Bool} {l m : List DKind} : rowB fr nest 6 cKind l = rowB fr nest 6 cKind m ↔ l = m := rowB_eq ok_cKind (by decide)
@[simp] theorem slc_cKind (l m : List DKind) : slc cKind l = slc cKind m ↔ l = m := slc_eq ok_cKind
theorem cLKind_eq (a b : List DKind) : cLKind a = cLKind b ↔ a = b := by simp [cLKind, byte_inj]
attribute [simp] cLKind_eq
theorem ok_cLKind : COk cLKind 1 := ⟨fun _ => rfl, fun a b h => (cLKind_eq a b).1 h⟩
@[simp] theorem rw_cLKind {fr nest : Bool} {l m : List (List DKind)} : rowB fr nest 1 cLKind l = rowB fr nest 1 cLKind m ↔ l = m := rowB_eq ok_cLKind (by decide)
@[simp] theorem slc_cLKind (l m : List (List DKind)) : slc cLKind l = slc cLKind m ↔ l = m := slc_eq ok_cLKind
theorem cRules_eq (a b : DRules) : cRules a = cRules b ↔ a = b := by
 obtain ⟨_, _, _, _, _, _, _⟩ := a
 obtain ⟨_, _, _, _, _, _, _⟩ := b
 simp [cRules, and_assoc, byte_inj]
attribute [simp] cRules_eq
theorem ok_cRules : COk cRules 7 := ⟨fun _ => rfl, fun a b h => (cRules_eq a b).1 h⟩
@[simp] theorem rw_cRules {fr nest : Bool} {l m : List DRules} : rowB fr nest 7 cRules l = rowB fr nest 7 cRules m ↔ l = m := rowB_eq ok_cRules (by decide)
@[simp] theorem slc_cRules (l m : List DRules) : slc cRules l = slc cRules m ↔ l = m := slc_eq ok_cRules
theorem cMap_eq (a b : DMap) : cMap a = cMap b ↔ a = b := by
 obtain ⟨_, _, _, _, _⟩ := a
 obtain ⟨_, _, _, _, _⟩ := b
 simp [cMap, and_assoc, byte_inj]
attribute [simp] cMap_eq
theorem ok_cMap : COk cMap 5 := ⟨fun _ => rfl, fun a b h => (cMap_eq a b).1 h⟩
@[simp] theorem rw_cMap {fr nest : Bool} {l m : List DMap} : rowB fr nest 5 cMap l = rowB fr nest 5 cMap m ↔ l = m := rowB_eq ok_cMap (by decide)
@[simp] theorem slc_cMap (l m : List DMap) : slc cMap l = slc cMap m ↔ l = m := slc_eq ok_cMap
theorem cBoard_eq (a b : DBoard) : cBoard a = cBoard b ↔ a = b := by
 obtain ⟨⟨_, _, _, _, _, _, _⟩, ⟨_, _, _, _, _⟩⟩ := a
 obtain ⟨⟨_, _, _, _, _, _, _⟩, ⟨_, _, _, _, _⟩⟩ := b
 simp [cBoard, and_assoc, byte_inj]
attribute [simp] cBoard_eq
theorem ok_cBoard : COk cBoard 12 := ⟨fun _ => rfl, fun a b h => (cBoard_eq a b).1 h⟩
@[simp] theorem rw_cBoard {fr nest : Bool} {l m : List DBoard} : rowB fr nest 12 cBoard l = rowB fr nest 12 cBoard m ↔ l = m := rowB_eq ok_cBoard (by decide)
@[simp] theorem slc_cBoard (l m : List DBoard) : slc cBoard l = slc cBoard m ↔ l = m := slc_eq ok_cBoard
theorem cUnit_eq (a b : DUnit) : cUnit a = cUnit b ↔ a = b := by
 obtain ⟨_, _, _, _⟩ := a
 obtain ⟨_, _, _, _⟩ := b
 simp [cUnit, and_assoc, byte_inj]
attribute [simp] cUnit_eq
theorem ok_cUnit : COk cUnit 4 := ⟨fun _ => rfl, fun a b h => (cUnit_eq a b).1 h⟩
@[simp] theorem rw_cUnit {fr nest : Bool} {l m : List DUnit} : rowB fr nest 4 cUnit l = rowB fr nest 4 cUnit m ↔ l = m := rowB_eq ok_cUnit (by decide)
@[simp] theorem slc_cUnit (l m : List DUnit) : slc cUnit l = slc cUnit m ↔ l = m := slc_eq ok_cUnit
theorem cLUnit_eq (a b : List DUnit) : cLUnit a = cLUnit b ↔ a = b := by simp [cLUnit, byte_inj]
attribute [simp] cLUnit_eq
theorem ok_cLUnit : COk cLUnit 1 := ⟨fun _ => rfl, fun a b h => (cLUnit_eq a b).1 h⟩
@[simp] theorem rw_cLUnit {fr nest : Bool} {l m : List (List DUnit)} : rowB fr nest 1 cLUnit l = rowB fr nest 1 cLUnit m ↔ l = m := rowB_eq ok_cLUnit (by decide)
@[simp] theorem slc_cLUnit (l m : List (List DUnit)) : slc cLUnit l = slc cLUnit m ↔ l = m := slc_eq ok_cLUnit
theorem cState_eq (a b : DState) : cState a = cState b ↔ a = b := by
 obtain ⟨_, _, _⟩ := a
 obtain ⟨_, _, _⟩ := b
 simp [cState, and_assoc, byte_inj]
attribute [simp] cState_eq
theorem ok_cState : COk cState 3 := ⟨fun _ => rfl, fun a b h => (cState_eq a b).1 h⟩
@[simp] theorem rw_cState {fr nest : Bool} {l m : List DState} : rowB fr nest 3 cState l = rowB fr nest 3 cState m ↔ l = m := rowB_eq ok_cState (by decide)
@[simp] theorem slc_cState (l m : List DState) : slc cState l = slc cState m ↔ l = m := slc_eq ok_cState
theorem cU64_eq (a b : Int) : cU64 a = cU64 b ↔ a = b := by simp [cU64, byte_inj]
attribute [simp] cU64_eq
theorem ok_cU64 : COk cU64 1 := ⟨fun _ => rfl, fun a b h => (cU64_eq a b).1 h⟩
@[simp] theorem rw_cU64 {fr nest : Bool} {l m : List Int} : rowB fr nest 1 cU64 l = rowB fr nest 1 cU64 m ↔ l = m := rowB_eq ok_cU64 (by decide)
@[simp] theorem slc_cU64 (l m : List Int) : slc cU64 l = slc cU64 m ↔ l = m := slc_eq ok_cU64
theorem cl1Cur_eq (a b : Dl1Cur) : cl1Cur a = cl1Cur b ↔ a = b := by
 obtain ⟨_, _, _⟩ := a
 obtain ⟨_, _, _⟩ := b
 simp [cl1Cur, and_assoc, byte_inj]
attribute [simp] cl1Cur_eq
theorem ok_cl1Cur : COk cl1Cur 3 := ⟨fun _ => rfl, fun a b h => (cl1Cur_eq a b).1 h⟩
@[simp] theorem rw_cl1Cur {fr nest : Bool} {l m : List Dl1Cur} : rowB fr nest 3 cl1Cur l = rowB fr nest 3 cl1Cur m ↔ l = m := rowB_eq ok_cl1Cur (by decide)
@[simp] theorem slc_cl1Cur (l m : List Dl1Cur) : slc cl1Cur l = slc cl1Cur m ↔ l = m := slc_eq ok_cl1Cur
theorem cLLI_eq (a b : List (List Int)) : cLLI a = cLLI b ↔ a = b := by simp [cLLI, byte_inj]
attribute [simp] cLLI_eq
theorem ok_cLLI : COk cLLI 1 := ⟨fun _ => rfl, fun a b h => (cLLI_eq a b).1 h⟩
@[simp] theorem rw_cLLI {fr nest : Bool} {l m : List (List (List Int))} : rowB fr nest 1 cLLI l = rowB fr nest 1 cLLI m ↔ l = m := rowB_eq ok_cLLI (by decide)
@[simp] theorem slc_cLLI (l m : List (List (List Int))) : slc cLLI l = slc cLLI m ↔ l = m := slc_eq ok_cLLI
theorem cA2I_eq (a b : A2I) : cA2I a = cA2I b ↔ a = b := by
 obtain ⟨_, _⟩ := a
 obtain ⟨_, _⟩ := b
 simp [cA2I, and_assoc, byte_inj]
attribute [simp] cA2I_eq
theorem ok_cA2I : COk cA2I 2 := ⟨fun _ => rfl, fun a b h => (cA2I_eq a b).1 h⟩
@[simp] theorem rw_cA2I {fr nest : Bool} {l m : List A2I} : rowB fr nest 2 cA2I l = rowB fr nest 2 cA2I m ↔ l = m := rowB_eq ok_cA2I (by decide)
@[simp] theorem slc_cA2I (l m : List A2I) : slc cA2I l = slc cA2I m ↔ l = m := slc_eq ok_cA2I
theorem cLA2I_eq (a b : List A2I) : cLA2I a = cLA2I b ↔ a = b := by simp [cLA2I, byte_inj]
attribute [simp] cLA2I_eq
theorem ok_cLA2I : COk cLA2I 1 := ⟨fun _ => rfl, fun a b h => (cLA2I_eq a b).1 h⟩
@[simp] theorem rw_cLA2I {fr nest : Bool} {l m : List (List A2I)} : rowB fr nest 1 cLA2I l = rowB fr nest 1 cLA2I m ↔ l = m := rowB_eq ok_cLA2I (by decide)
@[simp] theorem slc_cLA2I (l m : List (List A2I)) : slc cLA2I l = slc cLA2I m ↔ l = m := slc_eq ok_cLA2I
theorem cHex_eq (a b : DHex) : cHex a = cHex b ↔ a = b := by
 obtain ⟨_, _⟩ := a
 obtain ⟨_, _⟩ := b
 simp [cHex, and_assoc, byte_inj]
attribute [simp] cHex_eq
theorem ok_cHex : COk cHex 2 := ⟨fun _ => rfl, fun a b h => (cHex_eq a b).1 h⟩
@[simp] theorem rw_cHex {fr nest : Bool} {l m : List DHex} : rowB fr nest 2 cHex l = rowB fr nest 2 cHex m ↔ l = m := rowB_eq ok_cHex (by decide)
@[simp] theorem slc_cHex (l m : List DHex) : slc cHex l = slc cHex m ↔ l = m := slc_eq ok_cHex
theorem cAttempt_eq (a b : DAttempt) : cAttempt a = cAttempt b ↔ a = b := by
 obtain ⟨_, _, _⟩ := a
 obtain ⟨_, _, _⟩ := b
 simp [cAttempt, and_assoc, byte_inj]
attribute [simp] cAttempt_eq
theorem ok_cAttempt : COk cAttempt 3 := ⟨fun _ => rfl, fun a b h => (cAttempt_eq a b).1 h⟩
@[simp] theorem rw_cAttempt {fr nest : Bool} {l m : List DAttempt} : rowB fr nest 3 cAttempt l = rowB fr nest 3 cAttempt m ↔ l = m := rowB_eq ok_cAttempt (by decide)
@[simp] theorem slc_cAttempt (l m : List DAttempt) : slc cAttempt l = slc cAttempt m ↔ l = m := slc_eq ok_cAttempt
theorem cLAttempt_eq (a b : List DAttempt) : cLAttempt a = cLAttempt b ↔ a = b := by simp [cLAttempt, byte_inj]
attribute [simp] cLAttempt_eq
theorem ok_cLAttempt : COk cLAttempt 1 := ⟨fun _ => rfl, fun a b h => (cLAttempt_eq a b).1 h⟩
@[simp] theorem rw_cLAttempt {fr nest : Bool} {l m : List (List DAttempt)} : rowB fr nest 1 cLAttempt l = rowB fr nest 1 cLAttempt m ↔ l = m := rowB_eq ok_cLAttempt (by decide)
@[simp] theorem slc_cLAttempt (l m : List (List DAttempt)) : slc cLAttempt l = slc cLAttempt m ↔ l = m := slc_eq ok_cLAttempt
theorem cA6Hex_eq (a b : A6Hex) : cA6Hex a = cA6Hex b ↔ a = b := by
 obtain ⟨⟨_, _⟩, ⟨_, _⟩, ⟨_, _⟩, ⟨_, _⟩, ⟨_, _⟩, ⟨_, _⟩⟩ := a
 obtain ⟨⟨_, _⟩, ⟨_, _⟩, ⟨_, _⟩, ⟨_, _⟩, ⟨_, _⟩, ⟨_, _⟩⟩ := b
 simp [cA6Hex, and_assoc, byte_inj]
attribute [simp] cA6Hex_eq
theorem ok_cA6Hex : COk cA6Hex 12 := ⟨fun _ => rfl, fun a b h => (cA6Hex_eq a b).1 h⟩
@[simp] theorem rw_cA6Hex {fr nest : Bool} {l m : List A6Hex} : rowB fr nest 12 cA6Hex l = rowB fr nest 12 cA6Hex m ↔ l = m := rowB_eq ok_cA6Hex (by decide)
@[simp] theorem slc_cA6Hex (l m : List A6Hex) : slc cA6Hex l = slc cA6Hex m ↔ l = m := slc_eq ok_cA6Hex
theorem cLS_eq (a b : List ByteArray) : cLS a = cLS b ↔ a = b := by simp [cLS, byte_inj]
attribute [simp] cLS_eq
theorem ok_cLS : COk cLS 1 := ⟨fun _ => rfl, fun a b h => (cLS_eq a b).1 h⟩
@[simp] theorem rw_cLS {fr nest : Bool} {l m : List (List ByteArray)} : rowB fr nest 1 cLS l = rowB fr nest 1 cLS m ↔ l = m := rowB_eq ok_cLS (by decide)
@[simp] theorem slc_cLS (l m : List (List ByteArray)) : slc cLS l = slc cLS m ↔ l = m := slc_eq ok_cLS
theorem cTerrainN_eq (a b : DTerrain) : cTerrainN a = cTerrainN b ↔ a = b := by
 obtain ⟨_, _, _, _, _⟩ := a
 obtain ⟨_, _, _, _, _⟩ := b
 simp only [cTerrainN, List.cons.injEq, AV.sc.injEq, Value.string.injEq, Value.int.injEq, Value.bool.injEq, nst_eq ok_cI, true_and, and_true, DTerrain.mk.injEq]
attribute [simp] cTerrainN_eq
theorem ok_cTerrainN : COk cTerrainN 5 := ⟨fun _ => rfl, fun a b h => (cTerrainN_eq a b).1 h⟩
@[simp] theorem rw_cTerrainN {fr nest : Bool} {l m : List DTerrain} : rowB fr nest 5 cTerrainN l = rowB fr nest 5 cTerrainN m ↔ l = m := rowB_eq ok_cTerrainN (by decide)
theorem cLIN_eq (a b : List Int) : cLIN a = cLIN b ↔ a = b := by simp only [cLIN, List.cons.injEq, nst_eq ok_cI, and_true]
attribute [simp] cLIN_eq
theorem ok_cLIN : COk cLIN 1 := ⟨fun _ => rfl, fun a b h => (cLIN_eq a b).1 h⟩
@[simp] theorem rw_cLIN {fr nest : Bool} {l m : List (List Int)} : rowB fr nest 1 cLIN l = rowB fr nest 1 cLIN m ↔ l = m := rowB_eq ok_cLIN (by decide)
theorem sl_cY : SlOk Tryz.prog 22 cY := ⟨5, 1, by kernel_rfl, by kernel_rfl, ok_cY⟩
theorem rt_cY : RowT Tryz.prog 22 cY 1 1 := ⟨ok_cY, by decide, fun _ => rfl, ⟨5, [.sc (.int .u8 0)], by kernel_rfl, by kernel_rfl, by kernel_rfl, by kernel_rfl, rfl⟩⟩
theorem ag_cY : szT Tryz.prog 5 = some 1 ∧ aggT Tryz.prog 5 = some false := ⟨by kernel_rfl, by kernel_rfl⟩
theorem sl_cTerrain : SlOk Tryz.prog 24 cTerrain := ⟨117, 5, by kernel_rfl, by kernel_rfl, ok_cTerrain⟩
theorem rt_cTerrain : RowT Tryz.prog 24 cTerrain 5 64 := ⟨ok_cTerrain, by decide, fun _ => rfl, ⟨117, [S ByteArray.empty, .emp, I 0, I 0, B false], by kernel_rfl, by kernel_rfl, by kernel_rfl, by kernel_rfl, rfl⟩⟩
theorem ag_cTerrain : szT Tryz.prog 117 = some 5 ∧ aggT Tryz.prog 117 = some true := ⟨by kernel_rfl, by kernel_rfl⟩
theorem str_ok : isStrT Tryz.prog 9 = true := by kernel_rfl
theorem sl_cI : SlOk Tryz.prog 28 cI := ⟨3, 1, by kernel_rfl, by kernel_rfl, ok_cI⟩
theorem rt_cI : RowT Tryz.prog 28 cI 1 8 := ⟨ok_cI, by decide, fun _ => rfl, ⟨3, [I 0], by kernel_rfl, by kernel_rfl, by kernel_rfl, by kernel_rfl, rfl⟩⟩
theorem ag_cI : szT Tryz.prog 3 = some 1 ∧ aggT Tryz.prog 3 = some false := ⟨by kernel_rfl, by kernel_rfl⟩
theorem sl_cKind : SlOk Tryz.prog 25 cKind := ⟨121, 6, by kernel_rfl, by kernel_rfl, ok_cKind⟩
theorem rt_cKind : RowT Tryz.prog 25 cKind 6 56 := ⟨ok_cKind, by decide, fun _ => rfl, ⟨121, [S ByteArray.empty, I 0, I 0, I 0, B false, I 0], by kernel_rfl, by kernel_rfl, by kernel_rfl, by kernel_rfl, rfl⟩⟩
theorem ag_cKind : szT Tryz.prog 121 = some 6 ∧ aggT Tryz.prog 121 = some true := ⟨by kernel_rfl, by kernel_rfl⟩
theorem sl_cUnit : SlOk Tryz.prog 33 cUnit := ⟨44, 4, by kernel_rfl, by kernel_rfl, ok_cUnit⟩
theorem rt_cUnit : RowT Tryz.prog 33 cUnit 4 32 := ⟨ok_cUnit, by decide, fun _ => rfl, ⟨44, [I 0, I 0, I 0, I 0], by kernel_rfl, by kernel_rfl, by kernel_rfl, by kernel_rfl, rfl⟩⟩
theorem ag_cUnit : szT Tryz.prog 44 = some 4 ∧ aggT Tryz.prog 44 = some true := ⟨by kernel_rfl, by kernel_rfl⟩
theorem sl_cLI : SlOk Tryz.prog 77 cLI := ⟨28, 1, by kernel_rfl, by kernel_rfl, ok_cLI⟩
theorem rt_cLI : RowT Tryz.prog 77 cLI 1 24 := ⟨ok_cLI, by decide, fun _ => rfl, ⟨28, [.emp], by kernel_rfl, by kernel_rfl, by kernel_rfl, by kernel_rfl, rfl⟩⟩
theorem ag_cLI : szT Tryz.prog 28 = some 1 ∧ aggT Tryz.prog 28 = some false := ⟨by kernel_rfl, by kernel_rfl⟩
theorem sl_cA2I : SlOk Tryz.prog 94 cA2I := ⟨96, 2, by kernel_rfl, by kernel_rfl, ok_cA2I⟩
theorem rt_cA2I : RowT Tryz.prog 94 cA2I 2 16 := ⟨ok_cA2I, by decide, fun _ => rfl, ⟨96, [I 0, I 0], by kernel_rfl, by kernel_rfl, by kernel_rfl, by kernel_rfl, rfl⟩⟩
theorem ag_cA2I : szT Tryz.prog 96 = some 2 ∧ aggT Tryz.prog 96 = some true := ⟨by kernel_rfl, by kernel_rfl⟩
theorem ar_cA2I : arT Tryz.prog 96 = some (2, 3) ∧ szT Tryz.prog 3 = some 1 ∧ slT Tryz.prog 96 = none := ⟨by kernel_rfl, by kernel_rfl, by kernel_rfl⟩
theorem sl_cAttempt : SlOk Tryz.prog 113 cAttempt := ⟨115, 3, by kernel_rfl, by kernel_rfl, ok_cAttempt⟩
theorem rt_cAttempt : RowT Tryz.prog 113 cAttempt 3 24 := ⟨ok_cAttempt, by decide, fun _ => rfl, ⟨115, [I 0, I 0, I 0], by kernel_rfl, by kernel_rfl, by kernel_rfl, by kernel_rfl, rfl⟩⟩
theorem ag_cAttempt : szT Tryz.prog 115 = some 3 ∧ aggT Tryz.prog 115 = some true := ⟨by kernel_rfl, by kernel_rfl⟩
theorem ar_cA6Hex : arT Tryz.prog 81 = some (6, 80) ∧ szT Tryz.prog 80 = some 2 ∧ slT Tryz.prog 81 = none := ⟨by kernel_rfl, by kernel_rfl, by kernel_rfl⟩
theorem sl_cS : SlOk Tryz.prog 143 cS := ⟨9, 1, by kernel_rfl, by kernel_rfl, ok_cS⟩
theorem rt_cS : RowT Tryz.prog 143 cS 1 16 := ⟨ok_cS, by decide, fun _ => rfl, ⟨9, [S ByteArray.empty], by kernel_rfl, by kernel_rfl, by kernel_rfl, by kernel_rfl, rfl⟩⟩
theorem ag_cS : szT Tryz.prog 9 = some 1 ∧ aggT Tryz.prog 9 = some false := ⟨by kernel_rfl, by kernel_rfl⟩
end Go.Ev
