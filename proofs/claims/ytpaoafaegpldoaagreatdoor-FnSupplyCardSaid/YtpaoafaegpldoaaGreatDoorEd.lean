/-
  Ed: one of the texts behind a proof of laws.FnSupply: the program's types as data
  Its conditions: none of its own.
-/
import Derived.Test.YtpaoafaegpldoaaGreatDoorEc
import Derived.Test.YtpaoafaegpldoaaGreatDoorProg
import Derived.KernelRfl
set_option maxRecDepth 100000
set_option linter.unusedVariables false
set_option linter.unusedSectionVars false
set_option linter.unusedSimpArgs false
set_option linter.unnecessarySimpa false
/-
  THE DATA that the program handles: its structs, how they lie in cells; the table of types; the configuration of the evaluator.
  Written by a program (types.py) off the translation's own tables.
-/
namespace Go.Ev
open Go Go.Proofs
abbrev I (n : Int) : AV := .sc (.int .i64 n)
abbrev K (k : IntKind) (n : Int) : AV := .sc (.int k n)
abbrev B (b : Bool) : AV := .sc (.bool b)
abbrev S (s : ByteArray) : AV := .sc (.string s)
def cI (n : Int) : List AV := [I n]
def cU64 (n : Int) : List AV := [K .u64 n]
def cI32 (n : Int) : List AV := [K .i32 n]
def cU32 (n : Int) : List AV := [K .u32 n]
def cB (b : Bool) : List AV := [B b]
def cS (s : ByteArray) : List AV := [S s]
/-- A slice of the program's own arguments. -/
structure KSl where
  A : Option Addr
  n : Nat
  k : Nat
def Kn (x : KSl) : AV := .sc (.slice x.A x.n x.k)
@[simp] theorem Kn_eq (a b : KSl) : Kn a = Kn b ↔ a = b := by
  obtain ⟨_, _, _⟩ := a
  obtain ⟨_, _, _⟩ := b
  simp [Kn]
def cLY (l : List UInt8) : List AV := [slc cY l]
def cLI (l : List Int) : List AV := [slc cI l]
structure DTerrain where
  Name : ByteArray
  Cost : List Int
  Shift : Int
  Height : Int
  Blocks : Bool
def cTerrain (x : DTerrain) : List AV := [S x.Name, slc cI x.Cost, I x.Shift, I x.Height, B x.Blocks]
def cLTerrain (l : List DTerrain) : List AV := [slc cTerrain l]
structure DKind where
  Name : ByteArray
  Strength : Int
  Moves : Int
  Steps : Int
  Zone : Bool
  View : Int
def cKind (x : DKind) : List AV := [S x.Name, I x.Strength, I x.Moves, I x.Steps, B x.Zone, I x.View]
def cLKind (l : List DKind) : List AV := [slc cKind l]
structure DRules where
  Terrains : List DTerrain
  Kinds : List DKind
  Stack : Int
  River : Int
  Road : Int
  Supply : Int
  Turns : Int
def cRules (x : DRules) : List AV := [slc cTerrain x.Terrains, slc cKind x.Kinds, I x.Stack, I x.River, I x.Road, I x.Supply, I x.Turns]
structure DMap where
  Width : Int
  Height : Int
  Terrain : List Int
  Rivers : List Int
  Roads : List Int
def cMap (x : DMap) : List AV := [I x.Width, I x.Height, slc cI x.Terrain, slc cI x.Rivers, slc cI x.Roads]
structure DBoard where
  Rules : DRules
  Map : DMap
def cBoard (x : DBoard) : List AV := [slc cTerrain x.Rules.Terrains, slc cKind x.Rules.Kinds, I x.Rules.Stack, I x.Rules.River, I x.Rules.Road, I x.Rules.Supply, I x.Rules.Turns, I x.Map.Width, I x.Map.Height, slc cI x.Map.Terrain, slc cI x.Map.Rivers, slc cI x.Map.Roads]
structure DUnit where
  Side : Int
  Kind : Int
  At : Int
  Steps : Int
def cUnit (x : DUnit) : List AV := [I x.Side, I x.Kind, I x.At, I x.Steps]
def cLUnit (l : List DUnit) : List AV := [slc cUnit l]
structure DState where
  Turn : Int
  Weather : Int
  Units : List DUnit
def cState (x : DState) : List AV := [I x.Turn, I x.Weather, slc cUnit x.Units]
def cLB (l : List Bool) : List AV := [slc cB l]
structure Dl1Cur where
  code_ : KSl
  at_ : Int
  seed_ : Int
def cl1Cur (x : Dl1Cur) : List AV := [Kn x.code_, I x.at_, K .u64 x.seed_]
structure DHex where
  Q : Int
  R : Int
def cHex (x : DHex) : List AV := [I x.Q, I x.R]
structure A6Hex where
  a0 : DHex
  a1 : DHex
  a2 : DHex
  a3 : DHex
  a4 : DHex
  a5 : DHex
def cA6Hex (x : A6Hex) : List AV := [I x.a0.Q, I x.a0.R, I x.a1.Q, I x.a1.R, I x.a2.Q, I x.a2.R, I x.a3.Q, I x.a3.R, I x.a4.Q, I x.a4.R, I x.a5.Q, I x.a5.R]
def cLS (l : List ByteArray) : List AV := [slc cS l]
structure A2I where
  a0 : Int
  a1 : Int
def cA2I (x : A2I) : List AV := [I x.a0, I x.a1]
def cLA2I (l : List A2I) : List AV := [slc cA2I l]
def cLLI (l : List (List Int)) : List AV := [slc cLI l]
def tblAt : List (TypeId × TE) → TypeId → Option TE
  | [], _ => none
  | (a, e) :: r, t => bif Nat.beq a t then some e else tblAt r t
def tLY : TE := ⟨List UInt8, false, cLY⟩
def tY : TE := ⟨UInt8, false, cY⟩
def tB : TE := ⟨Bool, false, cB⟩
def tI : TE := ⟨Int, false, cI⟩
def tBoard : TE := ⟨DBoard, true, cBoard⟩
def tRules : TE := ⟨DRules, true, cRules⟩
def tLTerrain : TE := ⟨List DTerrain, false, cLTerrain⟩
def tTerrain : TE := ⟨DTerrain, true, cTerrain⟩
def tS : TE := ⟨ByteArray, false, cS⟩
def tLI : TE := ⟨List Int, false, cLI⟩
def tLKind : TE := ⟨List DKind, false, cLKind⟩
def tKind : TE := ⟨DKind, true, cKind⟩
def tMap : TE := ⟨DMap, true, cMap⟩
def tState : TE := ⟨DState, true, cState⟩
def tLUnit : TE := ⟨List DUnit, false, cLUnit⟩
def tUnit : TE := ⟨DUnit, true, cUnit⟩
def tLB : TE := ⟨List Bool, false, cLB⟩
def tl1Cur : TE := ⟨Dl1Cur, true, cl1Cur⟩
def tU64 : TE := ⟨Int, false, cU64⟩
def tHex : TE := ⟨DHex, true, cHex⟩
def tA6Hex : TE := ⟨A6Hex, true, cA6Hex⟩
def tLS : TE := ⟨List ByteArray, false, cLS⟩
def tLA2I : TE := ⟨List A2I, false, cLA2I⟩
def tA2I : TE := ⟨A2I, true, cA2I⟩
def tLLI : TE := ⟨List (List Int), false, cLLI⟩
def tbl : Tbl := tblAt [(22, tLY), (5, tY), (4, tB), (3, tI), (31, tBoard), (30, tBoard), (26, tRules), (25, tRules), (23, tLTerrain), (99, tTerrain), (98, tTerrain), (9, tS), (27, tLI), (24, tLKind), (117, tKind), (116, tKind), (29, tMap), (28, tMap), (34, tState), (33, tState), (32, tLUnit), (49, tUnit), (48, tUnit), (54, tLB), (63, tl1Cur), (62, tl1Cur), (61, tU64), (74, tHex), (73, tHex), (85, tA6Hex), (115, tLS), (119, tLA2I), (120, tA2I), (129, tLLI)]
def rowAt : List ((Nat × Nat) × Nat) → Nat → Nat → Option TypeId
  | [], _, _ => none
  | (a, h) :: r, f, i => bif Nat.beq a.1 f && Nat.beq a.2 i then some h else rowAt r f i
def rowTab : List ((Nat × Nat) × Nat) := [((40, 4), 4), ((3, 0), 5), ((3, 1), 5), ((3, 8), 3), ((3, 9), 3), ((3, 11), 3), ((3, 16), 3), ((3, 17), 3), ((3, 28), 3), ((3, 32), 5), ((3, 34), 5), ((3, 39), 5), ((3, 44), 3), ((3, 49), 3), ((3, 51), 3), ((3, 57), 3), ((3, 59), 3), ((3, 62), 5), ((3, 67), 3), ((3, 68), 3), ((3, 73), 3), ((3, 74), 3), ((3, 82), 3), ((3, 83), 3), ((3, 91), 3), ((3, 92), 3), ((3, 114), 3), ((3, 130), 3), ((3, 131), 3), ((3, 139), 3), ((3, 147), 3), ((3, 149), 3), ((3, 171), 3), ((3, 176), 3), ((3, 182), 3), ((3, 187), 3), ((3, 189), 49), ((3, 200005), 99), ((3, 300005), 117), ((3, 400005), 3), ((3, 500005), 3), ((3, 600005), 3), ((3, 200006), 49), ((3, 100058), 3), ((3, 200013), 99), ((3, 300013), 117), ((3, 400013), 3), ((3, 500013), 3), ((3, 600013), 3), ((3, 200014), 49), ((4, 0), 5), ((4, 5), 3), ((4, 6), 5), ((4, 11), 3), ((4, 200002), 99), ((4, 300002), 117), ((4, 400002), 3), ((4, 500002), 3), ((4, 600002), 3), ((4, 200003), 49), ((5, 3), 3), ((5, 8), 3), ((5, 11), 3), ((5, 15), 3), ((5, 22), 3), ((5, 29), 49), ((5, 33), 3), ((5, 38), 49), ((5, 50), 4), ((5, 53), 3), ((5, 54), 3), ((5, 55), 3), ((5, 61), 3), ((5, 70), 3), ((5, 74), 3), ((5, 84), 3), ((5, 92), 3), ((5, 98), 3), ((5, 102), 3), ((5, 120), 3), ((5, 122), 3), ((5, 123), 3), ((5, 124), 3), ((5, 200004), 99), ((5, 300004), 117), ((5, 400004), 3), ((5, 500004), 3), ((5, 600004), 3), ((5, 200005), 49), ((5, 100050), 4), ((6, 3), 3), ((6, 8), 3), ((6, 10), 4), ((6, 11), 3), ((6, 14), 3), ((6, 15), 3), ((6, 24), 3), ((6, 31), 3), ((6, 39), 3), ((6, 41), 4), ((6, 42), 3), ((6, 44), 49), ((6, 49), 3), ((6, 55), 4), ((6, 57), 3), ((6, 58), 3), ((6, 64), 4), ((6, 69), 3), ((6, 76), 3), ((6, 99), 3), ((6, 116), 3), ((6, 118), 3), ((6, 119), 3), ((6, 120), 3), ((6, 200004), 99), ((6, 300004), 117), ((6, 400004), 3), ((6, 500004), 3), ((6, 600004), 3), ((6, 200005), 49), ((7, 0), 5), ((7, 5), 3), ((7, 6), 3), ((7, 11), 3), ((7, 12), 3), ((7, 14), 5), ((7, 28), 3), ((7, 33), 3), ((7, 35), 3), ((7, 42), 3), ((7, 47), 3), ((7, 52), 3), ((7, 54), 3), ((7, 58), 3), ((7, 63), 3), ((7, 66), 3), ((7, 67), 3), ((7, 68), 3), ((7, 72), 3), ((7, 73), 3), ((7, 200002), 99), ((7, 300002), 117), ((7, 400002), 3), ((7, 500002), 3), ((7, 600002), 3), ((7, 200003), 49), ((7, 200016), 5), ((7, 100019), 49), ((7, 200008), 99), ((7, 300008), 117), ((7, 400008), 3), ((7, 500008), 3), ((7, 600008), 3), ((7, 200009), 49), ((7, 100028), 3), ((7, 100034), 3), ((8, 3), 3), ((8, 4), 3), ((8, 13), 4), ((8, 19), 3), ((8, 23), 49), ((8, 31), 3), ((8, 36), 3), ((8, 45), 3), ((8, 46), 3), ((8, 53), 3), ((8, 54), 3), ((8, 69), 4), ((8, 70), 3), ((8, 83), 4), ((8, 95), 3), ((8, 200005), 99), ((8, 300005), 117), ((8, 400005), 3), ((8, 500005), 3), ((8, 600005), 3), ((8, 200006), 49), ((8, 100069), 4), ((9, 3), 3), ((9, 4), 3), ((9, 13), 4), ((9, 14), 3), ((9, 22), 3), ((9, 26), 49), ((9, 34), 3), ((9, 39), 3), ((9, 48), 3), ((9, 57), 3), ((9, 58), 3), ((9, 65), 3), ((9, 66), 3), ((9, 78), 3), ((9, 80), 4), ((9, 81), 3), ((9, 82), 3), ((9, 103), 3), ((9, 113), 4), ((9, 200005), 99), ((9, 300005), 117), ((9, 400005), 3), ((9, 500005), 3), ((9, 600005), 3), ((9, 200006), 49), ((10, 0), 3), ((10, 1), 3), ((10, 6), 3), ((10, 8), 3), ((10, 11), 3), ((10, 16), 3), ((10, 20), 3), ((11, 3), 3), ((11, 13), 3), ((11, 19), 49), ((11, 23), 3), ((11, 200004), 99), ((11, 300004), 117), ((11, 400004), 3), ((11, 500004), 3), ((11, 600004), 3), ((11, 200005), 49), ((12, 3), 3), ((12, 14), 3), ((12, 20), 49), ((12, 24), 3), ((12, 200004), 99), ((12, 300004), 117), ((12, 400004), 3), ((12, 500004), 3), ((12, 600004), 3), ((12, 200005), 49), ((13, 3), 3), ((13, 8), 3), ((13, 15), 3), ((13, 22), 49), ((13, 26), 3), ((13, 31), 49), ((13, 41), 4), ((13, 44), 3), ((13, 200004), 99), ((13, 300004), 117), ((13, 400004), 3), ((13, 500004), 3), ((13, 600004), 3), ((13, 200005), 49), ((13, 100041), 4), ((14, 0), 3), ((14, 7), 3), ((15, 0), 5), ((15, 5), 3), ((15, 9), 5), ((15, 25), 3), ((15, 200002), 99), ((15, 300002), 117), ((15, 400002), 3), ((15, 500002), 3), ((15, 600002), 3), ((15, 200003), 49), ((15, 200011), 5), ((15, 100014), 49), ((15, 200007), 99), ((15, 300007), 117), ((15, 400007), 3), ((15, 500007), 3), ((15, 600007), 3), ((15, 200008), 49), ((15, 100025), 3), ((16, 3), 3), ((16, 15), 3), ((16, 200004), 99), ((16, 300004), 117), ((16, 400004), 3), ((16, 500004), 3), ((16, 600004), 3), ((16, 200005), 49), ((17, 3), 3), ((17, 17), 4), ((17, 18), 3), ((17, 200004), 99), ((17, 300004), 117), ((17, 400004), 3), ((17, 500004), 3), ((17, 600004), 3), ((17, 200005), 49), ((17, 100017), 4), ((18, 1), 4), ((18, 2), 3), ((18, 6), 3), ((18, 7), 3), ((18, 8), 3), ((18, 15), 4), ((18, 17), 3), ((18, 18), 3), ((18, 19), 3), ((18, 24), 3), ((18, 28), 3), ((18, 34), 4), ((18, 38), 3), ((18, 41), 3), ((18, 43), 3), ((18, 44), 3), ((18, 47), 3), ((18, 53), 3), ((18, 57), 3), ((18, 63), 4), ((18, 68), 3), ((18, 74), 3), ((18, 76), 3), ((18, 77), 3), ((18, 85), 3), ((18, 87), 3), ((18, 88), 3), ((18, 90), 3), ((18, 200003), 3), ((18, 300003), 3), ((18, 400003), 3), ((19, 8), 4), ((19, 9), 4), ((19, 11), 4), ((19, 14), 3), ((19, 19), 4), ((19, 33), 4), ((19, 34), 4), ((19, 36), 4), ((19, 200004), 99), ((19, 300004), 117), ((19, 400004), 3), ((19, 500004), 3), ((19, 600004), 3), ((19, 200005), 49), ((20, 4), 3), ((20, 5), 3), ((20, 8), 3), ((20, 18), 3), ((20, 20), 3), ((20, 21), 3), ((20, 23), 3), ((20, 200002), 3), ((20, 300002), 3), ((20, 400002), 3), ((21, 3), 3), ((21, 15), 3), ((21, 200004), 99), ((21, 300004), 117), ((21, 400004), 3), ((21, 500004), 3), ((21, 600004), 3), ((21, 200005), 49), ((22, 3), 3), ((22, 10), 4), ((22, 11), 3), ((22, 13), 49), ((22, 24), 3), ((22, 26), 4), ((22, 27), 3), ((22, 28), 3), ((22, 200004), 99), ((22, 300004), 117), ((22, 400004), 3), ((22, 500004), 3), ((22, 600004), 3), ((22, 200005), 49), ((23, 3), 3), ((23, 8), 4), ((23, 9), 3), ((23, 11), 4), ((23, 13), 49), ((23, 23), 4), ((23, 24), 4), ((23, 27), 4), ((23, 28), 3), ((23, 29), 3), ((23, 200004), 99), ((23, 300004), 117), ((23, 400004), 3), ((23, 500004), 3), ((23, 600004), 3), ((23, 200005), 49), ((24, 1), 4), ((24, 2), 3), ((24, 6), 3), ((24, 7), 3), ((24, 9), 3), ((24, 15), 4), ((24, 17), 3), ((24, 18), 3), ((24, 23), 3), ((24, 27), 3), ((24, 33), 4), ((24, 37), 3), ((24, 40), 3), ((24, 42), 3), ((24, 43), 3), ((24, 46), 3), ((24, 56), 3), ((24, 65), 4), ((24, 71), 3), ((24, 77), 3), ((24, 79), 3), ((24, 80), 3), ((24, 88), 3), ((24, 90), 3), ((24, 91), 3), ((24, 92), 3), ((24, 200003), 3), ((24, 300003), 3), ((24, 400003), 3), ((25, 200003), 3), ((25, 300003), 3), ((25, 400003), 3), ((26, 200002), 99), ((26, 300002), 117), ((26, 400002), 3), ((26, 500002), 3), ((26, 600002), 3), ((26, 200003), 49), ((26, 200004), 99), ((26, 300004), 117), ((26, 400004), 3), ((26, 500004), 3), ((26, 600004), 3), ((26, 100010), 49), ((27, 7), 49), ((27, 200003), 49), ((28, 6), 3), ((28, 7), 3), ((28, 21), 3), ((28, 26), 3), ((28, 28), 49), ((28, 36), 49), ((28, 39), 49), ((28, 47), 3), ((28, 49), 3), ((28, 54), 3), ((28, 56), 3), ((28, 58), 3), ((28, 59), 3), ((28, 64), 3), ((28, 68), 3), ((28, 69), 3), ((28, 200004), 99), ((28, 300004), 117), ((28, 400004), 3), ((28, 500004), 3), ((28, 600004), 3), ((28, 200005), 49), ((28, 100026), 3), ((28, 100049), 3), ((30, 1), 3), ((30, 5), 3), ((30, 7), 3), ((31, 0), 3), ((31, 5), 3), ((33, 5), 3), ((33, 200001), 99), ((33, 300001), 117), ((33, 400001), 3), ((33, 500001), 3), ((33, 600001), 3), ((35, 200002), 3), ((35, 300002), 3), ((35, 400002), 3), ((36, 0), 3), ((36, 9), 3), ((37, 200001), 3), ((37, 300001), 3), ((37, 400001), 3), ((38, 0), 3), ((38, 7), 3), ((39, 4), 3), ((39, 5), 3), ((39, 7), 3), ((39, 10), 3), ((39, 18), 3), ((39, 20), 3), ((39, 21), 3), ((39, 23), 3), ((39, 200002), 99), ((39, 300002), 117), ((39, 400002), 3), ((39, 500002), 3), ((39, 600002), 3), ((40, 8), 4), ((40, 13), 4), ((40, 18), 4), ((40, 19), 3), ((40, 22), 4), ((41, 2), 4), ((41, 3), 3), ((41, 15), 4), ((41, 16), 3), ((41, 17), 3), ((41, 200004), 99), ((41, 300004), 117), ((41, 400004), 3), ((41, 500004), 3), ((41, 600004), 3), ((42, 13), 49), ((42, 200003), 99), ((42, 300003), 117), ((42, 400003), 3), ((42, 500003), 3), ((42, 600003), 3), ((42, 200004), 49), ((43, 1), 3), ((43, 5), 3), ((43, 9), 3), ((43, 13), 3), ((43, 200002), 99), ((43, 300002), 117), ((43, 400002), 3), ((43, 500002), 3), ((43, 600002), 3), ((44, 10), 3), ((44, 200003), 99), ((44, 300003), 117), ((44, 400003), 3), ((44, 500003), 3), ((44, 600003), 3), ((45, 200004), 99), ((45, 300004), 117), ((45, 400004), 3), ((45, 500004), 3), ((45, 600004), 3), ((45, 200005), 49), ((46, 200003), 3), ((46, 300003), 3), ((46, 400003), 3), ((47, 13), 49), ((47, 200003), 99), ((47, 300003), 117), ((47, 400003), 3), ((47, 500003), 3), ((47, 600003), 3), ((47, 200004), 49), ((48, 1), 3), ((48, 5), 3), ((48, 9), 3), ((48, 200002), 99), ((48, 300002), 117), ((48, 400002), 3), ((48, 500002), 3), ((48, 600002), 3), ((50, 8), 4), ((50, 9), 4), ((50, 14), 4), ((50, 15), 4), ((50, 20), 4), ((50, 37), 4), ((50, 200004), 99), ((50, 300004), 117), ((50, 400004), 3), ((50, 500004), 3), ((50, 600004), 3), ((50, 200005), 49), ((51, 200002), 3), ((51, 300002), 3), ((51, 400002), 3), ((52, 7), 3), ((52, 14), 3), ((53, 200002), 3), ((53, 300002), 3), ((53, 400002), 3), ((54, 200002), 99), ((54, 300002), 117), ((54, 400002), 3), ((54, 500002), 3), ((54, 600002), 3), ((54, 200003), 99), ((54, 300003), 117), ((54, 400003), 3), ((54, 500003), 3), ((54, 600003), 3), ((55, 11), 49), ((55, 18), 49), ((55, 33), 3), ((55, 39), 3), ((55, 45), 49), ((55, 51), 3), ((55, 58), 49), ((55, 61), 3), ((55, 68), 49), ((55, 71), 3), ((55, 78), 49), ((55, 85), 49), ((55, 87), 49), ((55, 88), 49), ((55, 200003), 99), ((55, 300003), 117), ((55, 400003), 3), ((55, 500003), 3), ((55, 600003), 3), ((55, 200004), 49), ((55, 100015), 49), ((55, 200005), 49), ((56, 13), 3), ((56, 21), 3), ((56, 27), 3), ((56, 33), 3), ((56, 200001), 3), ((56, 300001), 3), ((56, 400001), 3), ((57, 0), 3), ((57, 4), 3), ((57, 6), 3), ((57, 8), 3), ((57, 12), 3), ((57, 22), 3), ((57, 26), 3), ((57, 33), 3), ((57, 34), 3), ((57, 35), 3), ((57, 37), 3), ((57, 38), 3), ((57, 39), 3), ((57, 41), 3), ((57, 42), 3), ((57, 43), 3), ((57, 44), 3), ((57, 46), 3), ((57, 47), 3), ((58, 10), 3), ((58, 200003), 3), ((58, 300003), 3), ((58, 400003), 3), ((60, 11), 5), ((60, 17), 5), ((60, 51), 5), ((61, 0), 3), ((61, 6), 3), ((61, 12), 3), ((64, 200002), 99), ((64, 300002), 117), ((64, 400002), 3), ((64, 500002), 3), ((64, 600002), 3), ((64, 200003), 49), ((65, 0), 3), ((65, 5), 3), ((65, 10), 3), ((65, 15), 3), ((66, 0), 3), ((66, 5), 3), ((68, 7), 99), ((68, 10), 3), ((68, 200002), 99), ((68, 300002), 117), ((68, 400002), 3), ((68, 500002), 3), ((68, 600002), 3), ((68, 200004), 3), ((69, 8), 49), ((69, 200002), 49), ((70, 12), 49), ((70, 200004), 99), ((70, 300004), 117), ((70, 400004), 3), ((70, 500004), 3), ((70, 600004), 3), ((70, 200005), 49), ((71, 200002), 3), ((71, 300002), 3), ((71, 400002), 3), ((73, 29), 49), ((73, 34), 49), ((73, 46), 49), ((73, 62), 3), ((73, 71), 3), ((73, 200002), 99), ((73, 300002), 117), ((73, 400002), 3), ((73, 500002), 3), ((73, 600002), 3), ((73, 200003), 49), ((74, 0), 3), ((74, 9), 3), ((74, 25), 3), ((75, 10), 3), ((75, 200003), 99), ((75, 300003), 117), ((75, 400003), 3), ((75, 500003), 3), ((75, 600003), 3), ((76, 200004), 99), ((76, 300004), 117), ((76, 400004), 3), ((76, 500004), 3), ((76, 600004), 3), ((76, 200005), 49), ((77, 9), 99), ((77, 200002), 99), ((77, 300002), 117), ((77, 400002), 3), ((77, 500002), 3), ((77, 600002), 3), ((77, 100005), 99), ((77, 200005), 117), ((77, 200003), 99), ((77, 300003), 117), ((77, 100011), 3), ((77, 200011), 3), ((77, 300011), 3), ((78, 11), 99), ((78, 14), 3), ((78, 16), 3), ((78, 22), 99), ((78, 24), 9), ((78, 31), 117), ((78, 33), 3), ((78, 40), 117), ((78, 42), 117), ((78, 45), 117), ((78, 46), 117), ((78, 51), 3), ((78, 57), 3), ((78, 63), 99), ((78, 65), 3), ((78, 200002), 99), ((78, 300002), 117), ((78, 100005), 99), ((78, 200005), 117), ((78, 200003), 99), ((78, 300003), 117), ((79, 14), 3), ((79, 20), 3), ((79, 22), 3), ((79, 28), 3), ((79, 37), 3), ((79, 39), 3), ((79, 40), 3), ((79, 44), 3), ((79, 46), 3), ((79, 47), 3), ((79, 200002), 3), ((79, 300002), 3), ((79, 400002), 3), ((79, 100005), 3), ((79, 200005), 3), ((79, 300005), 3), ((79, 200003), 3), ((79, 300003), 3), ((79, 400003), 3), ((80, 14), 3), ((80, 17), 99), ((80, 200001), 99), ((80, 300001), 117), ((80, 400001), 3), ((80, 500001), 3), ((80, 600001), 3), ((81, 30), 117), ((81, 37), 117), ((81, 55), 49), ((81, 57), 49), ((81, 58), 49), ((81, 65), 49), ((81, 67), 49), ((81, 200003), 99), ((81, 300003), 117), ((81, 400003), 3), ((81, 500003), 3), ((81, 600003), 3), ((81, 200004), 49), ((81, 200005), 49), ((82, 1), 3), ((82, 7), 3), ((82, 30), 3), ((82, 200002), 3), ((82, 300002), 3), ((82, 400002), 3), ((84, 15), 3), ((84, 200001), 99), ((84, 300001), 117), ((84, 400001), 3), ((84, 500001), 3), ((84, 600001), 3), ((85, 5), 120), ((85, 23), 49), ((85, 29), 120), ((85, 31), 49), ((85, 44), 120), ((85, 55), 120), ((85, 66), 120), ((85, 200002), 99), ((85, 300002), 117), ((85, 400002), 3), ((85, 500002), 3), ((85, 600002), 3), ((85, 200003), 49), ((86, 0), 3), ((86, 6), 3), ((86, 12), 3), ((87, 14), 117), ((87, 200003), 99), ((87, 300003), 117), ((87, 400003), 3), ((87, 500003), 3), ((87, 600003), 3), ((88, 14), 117), ((88, 25), 117), ((88, 200002), 99), ((88, 300002), 117), ((88, 400002), 3), ((88, 500002), 3), ((88, 600002), 3), ((89, 6), 3), ((89, 7), 3), ((89, 11), 49), ((89, 28), 3), ((89, 30), 3), ((89, 31), 3), ((89, 33), 3), ((89, 200003), 49), ((90, 7), 99), ((90, 10), 3), ((90, 200002), 99), ((90, 300002), 117), ((90, 400002), 3), ((90, 500002), 3), ((90, 600002), 3), ((90, 200004), 3), ((91, 8), 49), ((91, 200002), 49), ((92, 13), 3), ((92, 200004), 99), ((92, 300004), 117), ((92, 400004), 3), ((92, 500004), 3), ((92, 600004), 3), ((92, 200005), 49), ((93, 3), 117), ((93, 5), 9), ((93, 43), 117), ((93, 44), 117), ((93, 48), 117), ((93, 61), 9), ((93, 70), 9), ((93, 73), 9), ((93, 93), 117), ((93, 102), 3), ((93, 104), 3), ((93, 105), 3), ((93, 109), 99), ((93, 111), 99), ((93, 112), 99), ((93, 200002), 99), ((93, 300002), 117), ((93, 200004), 99), ((93, 300004), 117), ((93, 200007), 3), ((94, 27), 3), ((94, 29), 3), ((94, 30), 3), ((94, 34), 3), ((94, 38), 3), ((94, 200004), 3), ((94, 300004), 3), ((94, 400004), 3), ((94, 200005), 3), ((94, 300005), 3), ((94, 400005), 3), ((94, 100034), 3), ((94, 100038), 3), ((95, 1), 9), ((95, 5), 9), ((95, 7), 9), ((96, 8), 99), ((96, 14), 117), ((96, 20), 99), ((96, 33), 99), ((96, 42), 3), ((96, 45), 117), ((96, 51), 3), ((96, 69), 117), ((96, 82), 117), ((96, 200001), 99), ((96, 300001), 117), ((96, 200004), 3), ((97, 8), 99), ((97, 14), 117), ((97, 20), 99), ((97, 29), 117), ((97, 35), 99), ((97, 44), 117), ((97, 56), 117), ((97, 200001), 99), ((97, 300001), 117), ((97, 200004), 3), ((98, 6), 3), ((98, 21), 3), ((98, 31), 3), ((98, 42), 3), ((98, 44), 3), ((98, 45), 27), ((98, 50), 3), ((98, 51), 3), ((98, 54), 3), ((98, 200001), 3), ((98, 300001), 3), ((98, 400001), 3), ((99, 7), 99), ((100, 14), 117), ((100, 24), 117), ((100, 200002), 99), ((100, 300002), 117), ((100, 400002), 3), ((100, 500002), 3), ((100, 600002), 3), ((101, 6), 3), ((101, 12), 3), ((101, 200002), 3), ((101, 300002), 3), ((101, 400002), 3), ((102, 200003), 3), ((102, 300003), 3), ((102, 400003), 3), ((103, 8), 3), ((103, 9), 3), ((103, 13), 49), ((103, 31), 3), ((103, 33), 3), ((103, 34), 3), ((103, 36), 3), ((103, 200004), 99), ((103, 300004), 117), ((103, 400004), 3), ((103, 500004), 3), ((103, 600004), 3), ((103, 200005), 49), ((104, 4), 3), ((104, 5), 3), ((104, 26), 3), ((104, 31), 3), ((104, 32), 3), ((104, 200003), 3), ((104, 300003), 3), ((104, 400003), 3), ((104, 100031), 3), ((106, 0), 99), ((106, 7), 99), ((106, 200006), 3), ((107, 0), 117), ((107, 7), 117), ((108, 11), 3), ((108, 29), 3), ((108, 200002), 3), ((109, 0), 99), ((109, 5), 99), ((111, 0), 117), ((111, 5), 117), ((112, 200002), 3), ((112, 300002), 3), ((112, 400002), 3), ((114, 12), 49), ((114, 22), 117), ((114, 200004), 99), ((114, 300004), 117), ((114, 400004), 3), ((114, 500004), 3), ((114, 600004), 3), ((114, 200005), 49), ((115, 200003), 3), ((115, 300003), 3), ((115, 400003), 3), ((118, 0), 99), ((118, 6), 99), ((118, 12), 99), ((119, 200002), 3), ((120, 0), 117), ((120, 6), 117), ((120, 12), 117), ((122, 8), 3), ((122, 200003), 3), ((122, 300003), 3), ((122, 400003), 3), ((123, 8), 3), ((123, 200003), 3), ((123, 300003), 3), ((123, 400003), 3)]
def capAt : List (Nat × List (Option TypeId)) → Nat → List (Option TypeId)
  | [], _ => []
  | (a, h) :: r, f => bif Nat.beq a f then h else capAt r f
def ke6 : KE := ⟨List Int × Bool, fun a => .tup [.own (.r 0 0) none 0 a.1.length a.1.length, B a.2], fun a => [(.r 0 0, some (rowB true false 1 cI a.1))]⟩
def ke19 : KE := ⟨List Bool, fun a => .own (.r 0 0) none 0 a.length a.length, fun a => [(.r 0 0, some (rowB true false 1 cB a))]⟩
def ke26 : KE := ⟨DBoard × DState, fun a => .tup [.agg [slc cTerrain a.1.Rules.Terrains, slc cKind a.1.Rules.Kinds, I a.1.Rules.Stack, I a.1.Rules.River, I a.1.Rules.Road, I a.1.Rules.Supply, I a.1.Rules.Turns, I a.1.Map.Width, I a.1.Map.Height, slc cI a.1.Map.Terrain, slc cI a.1.Map.Rivers, slc cI a.1.Map.Roads], .agg [I a.2.Turn, I a.2.Weather, .own (.r 0 0) none 0 a.2.Units.length a.2.Units.length]], fun a => [(.r 0 0, some (rowB true false 4 cUnit a.2.Units))]⟩
def ke28 : KE := ⟨(List Int) × List Int, fun a => .own (.r 0 0) none 0 a.1.length (a.1.length + a.2.length), fun a => [(.r 0 0, some (rowB true false 1 cI (a.1 ++ a.2)))]⟩
def ke55 : KE := ⟨DState, fun a => .agg [I a.Turn, I a.Weather, .own (.r 0 0) none 0 a.Units.length a.Units.length], fun a => [(.r 0 0, some (rowB true false 4 cUnit a.Units))]⟩
def ke57 : KE := ⟨List Int, fun a => .own (.r 0 0) none 0 a.length a.length, fun a => [(.r 0 0, some (rowB true false 1 cI a))]⟩
def kl57 : KE := ⟨Nat, fun a => .own (.l 0) none 0 a a, fun _ => []⟩
def ke81 : KE := ⟨DState, fun a => .agg [I a.Turn, I a.Weather, .own (.r 0 0) none 0 a.Units.length a.Units.length], fun a => [(.r 0 0, some (rowB true false 4 cUnit a.Units))]⟩
def cTerrainN (x : DTerrain) : List AV := [S x.Name, .nst 1 x.Cost.length (x.Cost.flatMap cI), I x.Shift, I x.Height, B x.Blocks]
def ke93 : KE := ⟨(DRules) × List DKind, fun a => .agg [.own (.r 0 0) none 0 a.1.Terrains.length a.1.Terrains.length, .own (.r 0 1) none 0 a.1.Kinds.length (a.1.Kinds.length + a.2.length), I a.1.Stack, I a.1.River, I a.1.Road, I a.1.Supply, I a.1.Turns], fun a => [(.r 0 0, some (rowB true true 5 cTerrainN a.1.Terrains)), (.r 0 1, some (rowB true false 6 cKind (a.1.Kinds ++ a.2)))]⟩
def ke94 : KE := ⟨DMap, fun a => .agg [I a.Width, I a.Height, .own (.r 0 0) none 0 a.Terrain.length a.Terrain.length, .own (.r 0 1) none 0 a.Rivers.length a.Rivers.length, .own (.r 0 2) none 0 a.Roads.length a.Roads.length], fun a => [(.r 0 0, some (rowB true false 1 cI a.Terrain)), (.r 0 1, some (rowB true false 1 cI a.Rivers)), (.r 0 2, some (rowB true false 1 cI a.Roads))]⟩
def ke104 : KE := ⟨List Int, fun a => .own (.r 0 0) none 0 a.length a.length, fun a => [(.r 0 0, some (rowB true false 1 cI a))]⟩
def tnTerrain : TE := ⟨DTerrain, true, cTerrainN⟩
def tblN : Tbl := tblAt [(99, tnTerrain), (98, tnTerrain)]
def T : Hn := { t := tbl, row := fun f id => match id with | .v t => rowAt rowTab f t | .h t k => (rowAt rowTab f (t + 100000 * (k + 1))).or (rowAt rowTab f t) | .r t k => (rowAt rowTab f (t + 100000 * (k + 1))).or (rowAt rowTab f t) | .l i => rowAt rowTab f i, n := tblN, cap := capAt [(40, [some 54, some 31, some 49, some 27, some 4]), (67, [some 31]), (99, [some 31]), (119, [some 9]), (121, [some 9])], kept := fun f _ => bif Nat.beq f 6 then [ke6] else bif Nat.beq f 19 then [ke19] else bif Nat.beq f 26 then [ke26] else bif Nat.beq f 28 then [ke28] else bif Nat.beq f 55 then [ke55] else bif Nat.beq f 57 then [kl57, ke57] else bif Nat.beq f 81 then [ke81] else bif Nat.beq f 93 then [ke93] else bif Nat.beq f 94 then [ke94] else bif Nat.beq f 104 then [ke104] else [] }
def hintAt : List ((Nat × Nat) × List (Nat × Option Nat)) → Nat → Nat → List (Nat × Option Nat)
  | [], _, _ => []
  | (a, h) :: r, f, i => bif Nat.beq a.1 f && Nat.beq a.2 i then h else hintAt r f i
def hints : List ((Nat × Nat) × List (Nat × Option Nat)) := [((3, 23), [(6, none), (7, none), (9, none), (28, none), (176, none), (177, none), (178, none)]), ((5, 7), [(4, none), (10, none), (11, none), (12, none), (55, none), (56, none), (57, none)]), ((5, 13), [(4, none), (10, none), (11, none), (12, none), (15, some 1)]), ((5, 16), [(4, none), (10, none), (11, none), (12, none), (15, none), (16, none), (92, none), (93, none), (94, none)]), ((6, 9), [(4, none), (10, none), (11, none), (13, none), (14, none), (15, some 1), (16, none)]), ((6, 13), [(4, none), (10, none), (11, none), (13, none), (14, none), (15, none), (16, none), (17, none), (65, none), (66, none)]), ((6, 18), [(4, none), (10, none), (11, none), (13, none), (14, none), (15, none), (16, none), (17, none), (18, none), (19, none), (20, none), (65, none), (66, none)]), ((8, 8), [(4, none), (5, none), (13, none), (70, none), (71, none), (72, none)]), ((9, 8), [(4, none), (5, none), (13, none), (82, none), (83, none), (84, none)]), ((9, 12), [(4, none), (5, none), (13, none), (15, none), (16, none), (17, none), (18, none), (82, none), (83, none), (84, none)]), ((10, 4), [(0, none), (1, none), (12, none), (13, none)]), ((14, 2), [(1, none), (7, none), (8, none), (9, none)]), ((18, 3), [(1, none), (2, none), (3, none), (7, none), (8, none), (20, none), (21, none)]), ((18, 8), [(1, none), (3, none), (7, none), (8, some 1), (28, none), (29, none), (30, none)]), ((18, 15), [(1, none), (3, none), (7, none), (8, some 1), (12, none)]), ((18, 18), [(1, none), (3, none), (7, none), (8, some 1), (12, none), (57, none), (58, none), (59, none)]), ((19, 3), [(2, none), (3, none), (4, none), (5, none), (9, some 1), (15, none), (16, none)]), ((20, 3), [(1, none), (2, none), (5, some 1), (9, none)]), ((24, 3), [(1, none), (2, none), (3, none), (7, none), (19, none), (20, none)]), ((24, 9), [(1, none), (3, none), (7, none), (9, some 1), (27, none), (28, none), (29, none)]), ((24, 16), [(1, none), (3, none), (7, none), (9, some 1), (12, none)]), ((24, 19), [(1, none), (3, none), (7, none), (9, some 1), (12, none), (13, none)]), ((28, 3), [(0, none), (4, none), (5, none), (7, some 1), (8, none)]), ((36, 2), [(1, none), (2, none), (9, none), (10, none), (11, none)]), ((38, 2), [(1, none), (7, none), (8, none), (9, none)]), ((39, 3), [(1, none), (5, some 1), (11, none), (12, none)]), ((50, 3), [(2, none), (3, none), (4, none), (5, none), (9, none), (16, none), (17, none)]), ((55, 17), [(0, none), (4, none), (5, none), (1005002, some 4)]), ((57, 2), [(0, none), (1, none), (5, none)]), ((61, 2), [(0, none), (1, none), (7, none), (8, none)]), ((65, 2), [(0, none), (3, none)]), ((69, 2), [(1, none), (8, none), (9, none), (10, none)]), ((70, 2), [(2, none), (3, none), (4, none), (12, none), (13, none), (14, none)]), ((73, 4), [(2, none), (3, none), (34, none), (35, none), (36, none)]), ((73, 10), [(2, none), (3, none), (46, none), (47, none), (48, none)]), ((74, 2), [(0, none), (1, none), (2, none), (9, none), (10, none), (11, none)]), ((81, 3), [(0, none), (3, none), (4, none), (5, none), (6, none), (1005002, some 4)]), ((82, 2), [(1, none), (2, none), (7, none), (8, none), (9, none)]), ((85, 5), [(2, none), (5, none), (31, none), (32, none), (33, none)]), ((86, 2), [(0, none), (1, none), (7, none), (8, none)]), ((87, 4), [(2, none), (3, none), (4, none), (30, none)]), ((89, 3), [(1, none), (2, none), (7, some 1), (11, none), (12, none), (13, none)]), ((91, 2), [(1, none), (8, none), (9, none), (10, none)]), ((93, 5), [(0, none), (2, none), (4, none), (5, none), (6, none), (1004000, some 1005)]), ((93, 10), [(0, none), (2, none), (4, none), (5, none), (6, none), (7, none), (94, none), (95, none), (1007001, some 1)]), ((94, 3), [(0, none), (1, none), (4, none), (5, none), (6, none), (1005002, some 1)]), ((96, 4), [(1, none), (20, none), (21, none), (22, none)]), ((96, 10), [(1, none), (69, none), (70, none), (71, none)]), ((97, 4), [(1, none), (20, none), (21, none), (22, none)]), ((97, 10), [(1, none), (44, none), (45, none), (46, none)]), ((98, 4), [(1, none), (31, none), (32, none), (33, none)]), ((98, 10), [(1, none), (45, none), (46, none), (47, none)]), ((98, 15), [(1, none), (45, none), (46, none), (47, none), (54, none), (55, none), (56, none)]), ((103, 3), [(2, none), (3, none), (4, none), (5, none), (9, some 1), (13, none), (14, none), (15, none)]), ((104, 3), [(0, none), (3, none), (5, some 1), (6, none)]), ((105, 2), [(0, none), (3, none)]), ((106, 2), [(1, none), (7, none), (8, none), (9, none)]), ((107, 2), [(1, none), (7, none), (8, none), (9, none)]), ((114, 5), [(3, none), (4, none), (9, none), (10, none)]), ((116, 2), [(0, none), (3, none)]), ((118, 2), [(0, none), (1, none), (7, none), (8, none)]), ((120, 2), [(0, none), (1, none), (7, none), (8, none)]), ((6, 1000000), [(0, some 1)]), ((6, 1000001), [(0, none)]), ((19, 1000000), [(0, some 1)]), ((19, 1000001), [(0, none)]), ((26, 1000000), [(0, some 5), (1, some 6), (9, some 1), (10, some 1), (11, some 1), (102, some 4)]), ((28, 1000000), [(0, some 1)]), ((28, 1000001), [(0, none)]), ((55, 1000000), [(2, some 4)]), ((55, 1000001), [(0, none)]), ((57, 1000000), [(0, some 1)]), ((57, 1000001), [(0, none)]), ((81, 1000000), [(2, some 4)]), ((81, 1000001), [(0, none)]), ((93, 1000000), [(0, some 1005), (1, some 6)]), ((94, 1000000), [(2, some 1), (3, some 1), (4, some 1)]), ((94, 1000001), [(0, none)]), ((104, 1000000), [(0, some 1)]), ((104, 1000001), [(0, none)])]
variable [Inhabited Known]
noncomputable def G : Cfg := { kn := (default : Known).kn, P := Tryz.prog, glob := fun g => bif Nat.beq g 0 then some [I 1, I 0, I 1, I (-1), I 0, I (-1), I (-1), I 0, I (-1), I 1, I 0, I 1] else none, lend := fun f i => (Nat.beq f 57 && Nat.beq i 0), keep := fun f => Nat.beq f 57 || Nat.beq f 104 || Nat.beq f 94 || Nat.beq f 93 || Nat.beq f 81 || Nat.beq f 55 || Nat.beq f 26 || Nat.beq f 28 || Nat.beq f 6 || Nat.beq f 19, inl := fun f => Nat.beq f 93 || Nat.beq f 78, hint := hintAt hints }
end Go.Ev
/-
  LEMMAS on the program's data: cells are told apart, of one number; slice types; written by a program (types.py).
-/
namespace Go.Ev
open Go Go.Proofs
set_option linter.unusedSimpArgs false
theorem byte_inj (a b : UInt8) : ((a.toNat : Int) = (b.toNat : Int)) ↔ a = b := ⟨fun h => UInt8.toNat_inj.1 (by omega), fun h => h ▸ rfl⟩
theorem cY_eq (a b : UInt8) : cY a = cY b ↔ a = b := by simp [cY, byte_inj]
attribute [simp] cY_eq
theorem ok_cY : COk cY 1 := ⟨fun _ => rfl, fun a b h => (cY_eq a b).1 h⟩
@[simp] theorem rw_cY {fr nest : Bool} {l m : List UInt8} : rowB fr nest 1 cY l = rowB fr nest 1 cY m ↔ l = m := rowB_eq ok_cY (by decide)
@[simp] theorem slc_cY (l m : List UInt8) : slc cY l = slc cY m ↔ l = m := slc_eq ok_cY
theorem cLY_eq (a b : List UInt8) : cLY a = cLY b ↔ a = b := by simp [cLY, byte_inj]
attribute [simp] cLY_eq
theorem ok_cLY : COk cLY 1 := ⟨fun _ => rfl, fun a b h => (cLY_eq a b).1 h⟩
@[simp] theorem rw_cLY {fr nest : Bool} {l m : List (List UInt8)} : rowB fr nest 1 cLY l = rowB fr nest 1 cLY m ↔ l = m := rowB_eq ok_cLY (by decide)
@[simp] theorem slc_cLY (l m : List (List UInt8)) : slc cLY l = slc cLY m ↔ l = m := slc_eq ok_cLY
theorem cB_eq (a b : Bool) : cB a = cB b ↔ a = b := by simp [cB, byte_inj]
attribute [simp] cB_eq
theorem ok_cB : COk cB 1 := ⟨fun _ => rfl, fun a b h => (cB_eq a b).1 h⟩
@[simp] theorem rw_cB {fr nest : Bool} {l m : List Bool} : rowB fr nest 1 cB l = rowB fr nest 1 cB m ↔ l = m := rowB_eq ok_cB (by decide)
@[simp] theorem slc_cB (l m : List Bool) : slc cB l = slc cB m ↔ l = m := slc_eq ok_cB
theorem cI_eq (a b : Int) : cI a = cI b ↔ a = b := by simp [cI, byte_inj]
attribute [simp] cI_eq
theorem ok_cI : COk cI 1 := ⟨fun _ => rfl, fun a b h => (cI_eq a b).1 h⟩
@[simp] theorem rw_cI {fr nest : Bool} {l m : List Int} : rowB fr nest 1 cI l = rowB fr nest 1 cI m ↔ l = m := rowB_eq ok_cI (by decide)
@[simp] theorem slc_cI (l m : List Int) : slc cI l = slc cI m ↔ l = m := slc_eq ok_cI
theorem cS_eq (a b : ByteArray) : cS a = cS b ↔ a = b := by simp [cS, byte_inj]
attribute [simp] cS_eq
theorem ok_cS : COk cS 1 := ⟨fun _ => rfl, fun a b h => (cS_eq a b).1 h⟩
@[simp] theorem rw_cS {fr nest : Bool} {l m : List ByteArray} : rowB fr nest 1 cS l = rowB fr nest 1 cS m ↔ l = m := rowB_eq ok_cS (by decide)
@[simp] theorem slc_cS (l m : List ByteArray) : slc cS l = slc cS m ↔ l = m := slc_eq ok_cS
theorem cLI_eq (a b : List Int) : cLI a = cLI b ↔ a = b := by simp [cLI, byte_inj]
attribute [simp] cLI_eq
theorem ok_cLI : COk cLI 1 := ⟨fun _ => rfl, fun a b h => (cLI_eq a b).1 h⟩
@[simp] theorem rw_cLI {fr nest : Bool} {l m : List (List Int)} : rowB fr nest 1 cLI l = rowB fr nest 1 cLI m ↔ l = m := rowB_eq ok_cLI (by decide)
@[simp] theorem slc_cLI (l m : List (List Int)) : slc cLI l = slc cLI m ↔ l = m := slc_eq ok_cLI
theorem cTerrain_eq (a b : DTerrain) : cTerrain a = cTerrain b ↔ a = b := by
  obtain ⟨_, _, _, _, _⟩ := a
  obtain ⟨_, _, _, _, _⟩ := b
  simp [cTerrain, and_assoc, byte_inj]
attribute [simp] cTerrain_eq
theorem ok_cTerrain : COk cTerrain 5 := ⟨fun _ => rfl, fun a b h => (cTerrain_eq a b).1 h⟩
@[simp] theorem rw_cTerrain {fr nest : Bool} {l m : List DTerrain} : rowB fr nest 5 cTerrain l = rowB fr nest 5 cTerrain m ↔ l = m := rowB_eq ok_cTerrain (by decide)
@[simp] theorem slc_cTerrain (l m : List DTerrain) : slc cTerrain l = slc cTerrain m ↔ l = m := slc_eq ok_cTerrain
theorem cLTerrain_eq (a b : List DTerrain) : cLTerrain a = cLTerrain b ↔ a = b := by simp [cLTerrain, byte_inj]
attribute [simp] cLTerrain_eq
theorem ok_cLTerrain : COk cLTerrain 1 := ⟨fun _ => rfl, fun a b h => (cLTerrain_eq a b).1 h⟩
@[simp] theorem rw_cLTerrain {fr nest : Bool} {l m : List (List DTerrain)} : rowB fr nest 1 cLTerrain l = rowB fr nest 1 cLTerrain m ↔ l = m := rowB_eq ok_cLTerrain (by decide)
@[simp] theorem slc_cLTerrain (l m : List (List DTerrain)) : slc cLTerrain l = slc cLTerrain m ↔ l = m := slc_eq ok_cLTerrain
theorem cKind_eq (a b : DKind) : cKind a = cKind b ↔ a = b := by
  obtain ⟨_, _, _, _, _, _⟩ := a
  obtain ⟨_, _, _, _, _, _⟩ := b
  simp [cKind, and_assoc, byte_inj]
attribute [simp] cKind_eq
theorem ok_cKind : COk cKind 6 := ⟨fun _ => rfl, fun a b h => (cKind_eq a b).1 h⟩
@[simp] theorem rw_cKind {fr nest : Bool} {l m : List DKind} : rowB fr nest 6 cKind l = rowB fr nest 6 cKind m ↔ l = m := rowB_eq ok_cKind (by decide)
@[simp] theorem slc_cKind (l m : List DKind) : slc cKind l = slc cKind m ↔ l = m := slc_eq ok_cKind
theorem cLKind_eq (a b : List DKind) : cLKind a = cLKind b ↔ a = b := by simp [cLKind, byte_inj]
attribute [simp] cLKind_eq
theorem ok_cLKind : COk cLKind 1 := ⟨fun _ => rfl, fun a b h => (cLKind_eq a b).1 h⟩
@[simp] theorem rw_cLKind {fr nest : Bool} {l m : List (List DKind)} : rowB fr nest 1 cLKind l = rowB fr nest 1 cLKind m ↔ l = m := rowB_eq ok_cLKind (by decide)
@[simp] theorem slc_cLKind (l m : List (List DKind)) : slc cLKind l = slc cLKind m ↔ l = m := slc_eq ok_cLKind
theorem cRules_eq (a b : DRules) : cRules a = cRules b ↔ a = b := by
  obtain ⟨_, _, _, _, _, _, _⟩ := a
  obtain ⟨_, _, _, _, _, _, _⟩ := b
  simp [cRules, and_assoc, byte_inj]
attribute [simp] cRules_eq
theorem ok_cRules : COk cRules 7 := ⟨fun _ => rfl, fun a b h => (cRules_eq a b).1 h⟩
@[simp] theorem rw_cRules {fr nest : Bool} {l m : List DRules} : rowB fr nest 7 cRules l = rowB fr nest 7 cRules m ↔ l = m := rowB_eq ok_cRules (by decide)
@[simp] theorem slc_cRules (l m : List DRules) : slc cRules l = slc cRules m ↔ l = m := slc_eq ok_cRules
theorem cMap_eq (a b : DMap) : cMap a = cMap b ↔ a = b := by
  obtain ⟨_, _, _, _, _⟩ := a
  obtain ⟨_, _, _, _, _⟩ := b
  simp [cMap, and_assoc, byte_inj]
attribute [simp] cMap_eq
theorem ok_cMap : COk cMap 5 := ⟨fun _ => rfl, fun a b h => (cMap_eq a b).1 h⟩
@[simp] theorem rw_cMap {fr nest : Bool} {l m : List DMap} : rowB fr nest 5 cMap l = rowB fr nest 5 cMap m ↔ l = m := rowB_eq ok_cMap (by decide)
@[simp] theorem slc_cMap (l m : List DMap) : slc cMap l = slc cMap m ↔ l = m := slc_eq ok_cMap
theorem cBoard_eq (a b : DBoard) : cBoard a = cBoard b ↔ a = b := by
  obtain ⟨⟨_, _, _, _, _, _, _⟩, ⟨_, _, _, _, _⟩⟩ := a
  obtain ⟨⟨_, _, _, _, _, _, _⟩, ⟨_, _, _, _, _⟩⟩ := b
  simp [cBoard, and_assoc, byte_inj]
attribute [simp] cBoard_eq
theorem ok_cBoard : COk cBoard 12 := ⟨fun _ => rfl, fun a b h => (cBoard_eq a b).1 h⟩
@[simp] theorem rw_cBoard {fr nest : Bool} {l m : List DBoard} : rowB fr nest 12 cBoard l = rowB fr nest 12 cBoard m ↔ l = m := rowB_eq ok_cBoard (by decide)
@[simp] theorem slc_cBoard (l m : List DBoard) : slc cBoard l = slc cBoard m ↔ l = m := slc_eq ok_cBoard
theorem cUnit_eq (a b : DUnit) : cUnit a = cUnit b ↔ a = b := by
  obtain ⟨_, _, _, _⟩ := a
  obtain ⟨_, _, _, _⟩ := b
  simp [cUnit, and_assoc, byte_inj]
attribute [simp] cUnit_eq
theorem ok_cUnit : COk cUnit 4 := ⟨fun _ => rfl, fun a b h => (cUnit_eq a b).1 h⟩
@[simp] theorem rw_cUnit {fr nest : Bool} {l m : List DUnit} : rowB fr nest 4 cUnit l = rowB fr nest 4 cUnit m ↔ l = m := rowB_eq ok_cUnit (by decide)
@[simp] theorem slc_cUnit (l m : List DUnit) : slc cUnit l = slc cUnit m ↔ l = m := slc_eq ok_cUnit
theorem cLUnit_eq (a b : List DUnit) : cLUnit a = cLUnit b ↔ a = b := by simp [cLUnit, byte_inj]
attribute [simp] cLUnit_eq
theorem ok_cLUnit : COk cLUnit 1 := ⟨fun _ => rfl, fun a b h => (cLUnit_eq a b).1 h⟩
@[simp] theorem rw_cLUnit {fr nest : Bool} {l m : List (List DUnit)} : rowB fr nest 1 cLUnit l = rowB fr nest 1 cLUnit m ↔ l = m := rowB_eq ok_cLUnit (by decide)
@[simp] theorem slc_cLUnit (l m : List (List DUnit)) : slc cLUnit l = slc cLUnit m ↔ l = m := slc_eq ok_cLUnit
theorem cState_eq (a b : DState) : cState a = cState b ↔ a = b := by
  obtain ⟨_, _, _⟩ := a
  obtain ⟨_, _, _⟩ := b
  simp [cState, and_assoc, byte_inj]
attribute [simp] cState_eq
theorem ok_cState : COk cState 3 := ⟨fun _ => rfl, fun a b h => (cState_eq a b).1 h⟩
@[simp] theorem rw_cState {fr nest : Bool} {l m : List DState} : rowB fr nest 3 cState l = rowB fr nest 3 cState m ↔ l = m := rowB_eq ok_cState (by decide)
@[simp] theorem slc_cState (l m : List DState) : slc cState l = slc cState m ↔ l = m := slc_eq ok_cState
theorem cLB_eq (a b : List Bool) : cLB a = cLB b ↔ a = b := by simp [cLB, byte_inj]
attribute [simp] cLB_eq
theorem ok_cLB : COk cLB 1 := ⟨fun _ => rfl, fun a b h => (cLB_eq a b).1 h⟩
@[simp] theorem rw_cLB {fr nest : Bool} {l m : List (List Bool)} : rowB fr nest 1 cLB l = rowB fr nest 1 cLB m ↔ l = m := rowB_eq ok_cLB (by decide)
@[simp] theorem slc_cLB (l m : List (List Bool)) : slc cLB l = slc cLB m ↔ l = m := slc_eq ok_cLB
theorem cU64_eq (a b : Int) : cU64 a = cU64 b ↔ a = b := by simp [cU64, byte_inj]
attribute [simp] cU64_eq
theorem ok_cU64 : COk cU64 1 := ⟨fun _ => rfl, fun a b h => (cU64_eq a b).1 h⟩
@[simp] theorem rw_cU64 {fr nest : Bool} {l m : List Int} : rowB fr nest 1 cU64 l = rowB fr nest 1 cU64 m ↔ l = m := rowB_eq ok_cU64 (by decide)
@[simp] theorem slc_cU64 (l m : List Int) : slc cU64 l = slc cU64 m ↔ l = m := slc_eq ok_cU64
theorem cl1Cur_eq (a b : Dl1Cur) : cl1Cur a = cl1Cur b ↔ a = b := by
  obtain ⟨_, _, _⟩ := a
  obtain ⟨_, _, _⟩ := b
  simp [cl1Cur, and_assoc, byte_inj]
attribute [simp] cl1Cur_eq
theorem ok_cl1Cur : COk cl1Cur 3 := ⟨fun _ => rfl, fun a b h => (cl1Cur_eq a b).1 h⟩
@[simp] theorem rw_cl1Cur {fr nest : Bool} {l m : List Dl1Cur} : rowB fr nest 3 cl1Cur l = rowB fr nest 3 cl1Cur m ↔ l = m := rowB_eq ok_cl1Cur (by decide)
@[simp] theorem slc_cl1Cur (l m : List Dl1Cur) : slc cl1Cur l = slc cl1Cur m ↔ l = m := slc_eq ok_cl1Cur
theorem cHex_eq (a b : DHex) : cHex a = cHex b ↔ a = b := by
  obtain ⟨_, _⟩ := a
  obtain ⟨_, _⟩ := b
  simp [cHex, and_assoc, byte_inj]
attribute [simp] cHex_eq
theorem ok_cHex : COk cHex 2 := ⟨fun _ => rfl, fun a b h => (cHex_eq a b).1 h⟩
@[simp] theorem rw_cHex {fr nest : Bool} {l m : List DHex} : rowB fr nest 2 cHex l = rowB fr nest 2 cHex m ↔ l = m := rowB_eq ok_cHex (by decide)
@[simp] theorem slc_cHex (l m : List DHex) : slc cHex l = slc cHex m ↔ l = m := slc_eq ok_cHex
theorem cA6Hex_eq (a b : A6Hex) : cA6Hex a = cA6Hex b ↔ a = b := by
  obtain ⟨⟨_, _⟩, ⟨_, _⟩, ⟨_, _⟩, ⟨_, _⟩, ⟨_, _⟩, ⟨_, _⟩⟩ := a
  obtain ⟨⟨_, _⟩, ⟨_, _⟩, ⟨_, _⟩, ⟨_, _⟩, ⟨_, _⟩, ⟨_, _⟩⟩ := b
  simp [cA6Hex, and_assoc, byte_inj]
attribute [simp] cA6Hex_eq
theorem ok_cA6Hex : COk cA6Hex 12 := ⟨fun _ => rfl, fun a b h => (cA6Hex_eq a b).1 h⟩
@[simp] theorem rw_cA6Hex {fr nest : Bool} {l m : List A6Hex} : rowB fr nest 12 cA6Hex l = rowB fr nest 12 cA6Hex m ↔ l = m := rowB_eq ok_cA6Hex (by decide)
@[simp] theorem slc_cA6Hex (l m : List A6Hex) : slc cA6Hex l = slc cA6Hex m ↔ l = m := slc_eq ok_cA6Hex
theorem cLS_eq (a b : List ByteArray) : cLS a = cLS b ↔ a = b := by simp [cLS, byte_inj]
attribute [simp] cLS_eq
theorem ok_cLS : COk cLS 1 := ⟨fun _ => rfl, fun a b h => (cLS_eq a b).1 h⟩
@[simp] theorem rw_cLS {fr nest : Bool} {l m : List (List ByteArray)} : rowB fr nest 1 cLS l = rowB fr nest 1 cLS m ↔ l = m := rowB_eq ok_cLS (by decide)
@[simp] theorem slc_cLS (l m : List (List ByteArray)) : slc cLS l = slc cLS m ↔ l = m := slc_eq ok_cLS
theorem cA2I_eq (a b : A2I) : cA2I a = cA2I b ↔ a = b := by
  obtain ⟨_, _⟩ := a
  obtain ⟨_, _⟩ := b
  simp [cA2I, and_assoc, byte_inj]
attribute [simp] cA2I_eq
theorem ok_cA2I : COk cA2I 2 := ⟨fun _ => rfl, fun a b h => (cA2I_eq a b).1 h⟩
@[simp] theorem rw_cA2I {fr nest : Bool} {l m : List A2I} : rowB fr nest 2 cA2I l = rowB fr nest 2 cA2I m ↔ l = m := rowB_eq ok_cA2I (by decide)
@[simp] theorem slc_cA2I (l m : List A2I) : slc cA2I l = slc cA2I m ↔ l = m := slc_eq ok_cA2I
theorem cLA2I_eq (a b : List A2I) : cLA2I a = cLA2I b ↔ a = b := by simp [cLA2I, byte_inj]
attribute [simp] cLA2I_eq
theorem ok_cLA2I : COk cLA2I 1 := ⟨fun _ => rfl, fun a b h => (cLA2I_eq a b).1 h⟩
@[simp] theorem rw_cLA2I {fr nest : Bool} {l m : List (List A2I)} : rowB fr nest 1 cLA2I l = rowB fr nest 1 cLA2I m ↔ l = m := rowB_eq ok_cLA2I (by decide)
@[simp] theorem slc_cLA2I (l m : List (List A2I)) : slc cLA2I l = slc cLA2I m ↔ l = m := slc_eq ok_cLA2I
theorem cLLI_eq (a b : List (List Int)) : cLLI a = cLLI b ↔ a = b := by simp [cLLI, byte_inj]
attribute [simp] cLLI_eq
theorem ok_cLLI : COk cLLI 1 := ⟨fun _ => rfl, fun a b h => (cLLI_eq a b).1 h⟩
@[simp] theorem rw_cLLI {fr nest : Bool} {l m : List (List (List Int))} : rowB fr nest 1 cLLI l = rowB fr nest 1 cLLI m ↔ l = m := rowB_eq ok_cLLI (by decide)
@[simp] theorem slc_cLLI (l m : List (List (List Int))) : slc cLLI l = slc cLLI m ↔ l = m := slc_eq ok_cLLI
theorem cTerrainN_eq (a b : DTerrain) : cTerrainN a = cTerrainN b ↔ a = b := by
  obtain ⟨_, _, _, _, _⟩ := a
  obtain ⟨_, _, _, _, _⟩ := b
  simp only [cTerrainN, List.cons.injEq, AV.sc.injEq, Value.string.injEq, Value.int.injEq, Value.bool.injEq, nst_eq ok_cI, true_and, and_true, DTerrain.mk.injEq]
attribute [simp] cTerrainN_eq
theorem ok_cTerrainN : COk cTerrainN 5 := ⟨fun _ => rfl, fun a b h => (cTerrainN_eq a b).1 h⟩
@[simp] theorem rw_cTerrainN {fr nest : Bool} {l m : List DTerrain} : rowB fr nest 5 cTerrainN l = rowB fr nest 5 cTerrainN m ↔ l = m := rowB_eq ok_cTerrainN (by decide)
theorem sl_cY : SlOk Tryz.prog 22 cY := ⟨5, 1, by kernel_rfl, by kernel_rfl, ok_cY⟩
theorem rt_cY : RowT Tryz.prog 22 cY 1 1 := ⟨ok_cY, by decide, fun _ => rfl, ⟨5, [.sc (.int .u8 0)], by kernel_rfl, by kernel_rfl, by kernel_rfl, by kernel_rfl, rfl⟩⟩
theorem ag_cY : szT Tryz.prog 5 = some 1 ∧ aggT Tryz.prog 5 = some false := ⟨by kernel_rfl, by kernel_rfl⟩
theorem sl_cTerrain : SlOk Tryz.prog 23 cTerrain := ⟨99, 5, by kernel_rfl, by kernel_rfl, ok_cTerrain⟩
theorem rt_cTerrain : RowT Tryz.prog 23 cTerrain 5 64 := ⟨ok_cTerrain, by decide, fun _ => rfl, ⟨99, [S ByteArray.empty, .emp, I 0, I 0, B false], by kernel_rfl, by kernel_rfl, by kernel_rfl, by kernel_rfl, rfl⟩⟩
theorem ag_cTerrain : szT Tryz.prog 99 = some 5 ∧ aggT Tryz.prog 99 = some true := ⟨by kernel_rfl, by kernel_rfl⟩
theorem str_ok : isStrT Tryz.prog 9 = true := by kernel_rfl
theorem sl_cI : SlOk Tryz.prog 27 cI := ⟨3, 1, by kernel_rfl, by kernel_rfl, ok_cI⟩
theorem rt_cI : RowT Tryz.prog 27 cI 1 8 := ⟨ok_cI, by decide, fun _ => rfl, ⟨3, [I 0], by kernel_rfl, by kernel_rfl, by kernel_rfl, by kernel_rfl, rfl⟩⟩
theorem ag_cI : szT Tryz.prog 3 = some 1 ∧ aggT Tryz.prog 3 = some false := ⟨by kernel_rfl, by kernel_rfl⟩
theorem sl_cKind : SlOk Tryz.prog 24 cKind := ⟨117, 6, by kernel_rfl, by kernel_rfl, ok_cKind⟩
theorem rt_cKind : RowT Tryz.prog 24 cKind 6 56 := ⟨ok_cKind, by decide, fun _ => rfl, ⟨117, [S ByteArray.empty, I 0, I 0, I 0, B false, I 0], by kernel_rfl, by kernel_rfl, by kernel_rfl, by kernel_rfl, rfl⟩⟩
theorem ag_cKind : szT Tryz.prog 117 = some 6 ∧ aggT Tryz.prog 117 = some true := ⟨by kernel_rfl, by kernel_rfl⟩
theorem sl_cUnit : SlOk Tryz.prog 32 cUnit := ⟨49, 4, by kernel_rfl, by kernel_rfl, ok_cUnit⟩
theorem rt_cUnit : RowT Tryz.prog 32 cUnit 4 32 := ⟨ok_cUnit, by decide, fun _ => rfl, ⟨49, [I 0, I 0, I 0, I 0], by kernel_rfl, by kernel_rfl, by kernel_rfl, by kernel_rfl, rfl⟩⟩
theorem ag_cUnit : szT Tryz.prog 49 = some 4 ∧ aggT Tryz.prog 49 = some true := ⟨by kernel_rfl, by kernel_rfl⟩
theorem sl_cB : SlOk Tryz.prog 54 cB := ⟨4, 1, by kernel_rfl, by kernel_rfl, ok_cB⟩
theorem rt_cB : RowT Tryz.prog 54 cB 1 1 := ⟨ok_cB, by decide, fun _ => rfl, ⟨4, [B false], by kernel_rfl, by kernel_rfl, by kernel_rfl, by kernel_rfl, rfl⟩⟩
theorem ag_cB : szT Tryz.prog 4 = some 1 ∧ aggT Tryz.prog 4 = some false := ⟨by kernel_rfl, by kernel_rfl⟩
theorem ar_cA6Hex : arT Tryz.prog 85 = some (6, 74) ∧ szT Tryz.prog 74 = some 2 ∧ slT Tryz.prog 85 = none := ⟨by kernel_rfl, by kernel_rfl, by kernel_rfl⟩
theorem sl_cS : SlOk Tryz.prog 115 cS := ⟨9, 1, by kernel_rfl, by kernel_rfl, ok_cS⟩
theorem rt_cS : RowT Tryz.prog 115 cS 1 16 := ⟨ok_cS, by decide, fun _ => rfl, ⟨9, [S ByteArray.empty], by kernel_rfl, by kernel_rfl, by kernel_rfl, by kernel_rfl, rfl⟩⟩
theorem ag_cS : szT Tryz.prog 9 = some 1 ∧ aggT Tryz.prog 9 = some false := ⟨by kernel_rfl, by kernel_rfl⟩
theorem sl_cA2I : SlOk Tryz.prog 119 cA2I := ⟨120, 2, by kernel_rfl, by kernel_rfl, ok_cA2I⟩
theorem rt_cA2I : RowT Tryz.prog 119 cA2I 2 16 := ⟨ok_cA2I, by decide, fun _ => rfl, ⟨120, [I 0, I 0], by kernel_rfl, by kernel_rfl, by kernel_rfl, by kernel_rfl, rfl⟩⟩
theorem ag_cA2I : szT Tryz.prog 120 = some 2 ∧ aggT Tryz.prog 120 = some true := ⟨by kernel_rfl, by kernel_rfl⟩
theorem ar_cA2I : arT Tryz.prog 120 = some (2, 3) ∧ szT Tryz.prog 3 = some 1 ∧ slT Tryz.prog 120 = none := ⟨by kernel_rfl, by kernel_rfl, by kernel_rfl⟩
theorem sl_cLI : SlOk Tryz.prog 129 cLI := ⟨27, 1, by kernel_rfl, by kernel_rfl, ok_cLI⟩
theorem rt_cLI : RowT Tryz.prog 129 cLI 1 24 := ⟨ok_cLI, by decide, fun _ => rfl, ⟨27, [.emp], by kernel_rfl, by kernel_rfl, by kernel_rfl, by kernel_rfl, rfl⟩⟩
theorem ag_cLI : szT Tryz.prog 27 = some 1 ∧ aggT Tryz.prog 27 = some false := ⟨by kernel_rfl, by kernel_rfl⟩
end Go.Ev
