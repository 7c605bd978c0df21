/-
  Ed: one of the texts behind a proof of laws.FnWorks: the program's types as data
  Its conditions: none of its own.
-/
import Derived.Test.YtcaabagddbbgnaaGreatDoorEc
import Derived.Test.YtcaabagddbbgnaaGreatDoorProg
import Derived.KernelRfl
set_option maxRecDepth 100000
set_option linter.unusedVariables false
set_option linter.unusedSectionVars false
set_option linter.unusedSimpArgs false
set_option linter.unnecessarySimpa false
/-
  THE DATA that the program handles: its structs, how they lie in cells; the table of types; the configuration of the evaluator.
  Written by a program (types.py) off the translation's own tables.
-/
namespace Go.Ev
open Go Go.Proofs
abbrev I (n : Int) : AV := .sc (.int .i64 n)
abbrev K (k : IntKind) (n : Int) : AV := .sc (.int k n)
abbrev B (b : Bool) : AV := .sc (.bool b)
abbrev S (s : ByteArray) : AV := .sc (.string s)
def cI (n : Int) : List AV := [I n]
def cU64 (n : Int) : List AV := [K .u64 n]
def cI32 (n : Int) : List AV := [K .i32 n]
def cU32 (n : Int) : List AV := [K .u32 n]
def cB (b : Bool) : List AV := [B b]
def cS (s : ByteArray) : List AV := [S s]
/-- A slice of the program's own arguments. -/
structure KSl where
  A : Option Addr
  n : Nat
  k : Nat
def Kn (x : KSl) : AV := .sc (.slice x.A x.n x.k)
@[simp] theorem Kn_eq (a b : KSl) : Kn a = Kn b ↔ a = b := by
  obtain ⟨_, _, _⟩ := a
  obtain ⟨_, _, _⟩ := b
  simp [Kn]
def cLY (l : List UInt8) : List AV := [slc cY l]
def cLI (l : List Int) : List AV := [slc cI l]
structure DTerrain where
  Name : ByteArray
  Cost : List Int
  Shift : Int
  Height : Int
  Blocks : Bool
def cTerrain (x : DTerrain) : List AV := [S x.Name, slc cI x.Cost, I x.Shift, I x.Height, B x.Blocks]
def cLTerrain (l : List DTerrain) : List AV := [slc cTerrain l]
structure DKind where
  Name : ByteArray
  Strength : Int
  Moves : Int
  Steps : Int
  Zone : Bool
  View : Int
def cKind (x : DKind) : List AV := [S x.Name, I x.Strength, I x.Moves, I x.Steps, B x.Zone, I x.View]
def cLKind (l : List DKind) : List AV := [slc cKind l]
structure DRules where
  Terrains : List DTerrain
  Kinds : List DKind
  Stack : Int
  River : Int
  Road : Int
  Supply : Int
  Turns : Int
def cRules (x : DRules) : List AV := [slc cTerrain x.Terrains, slc cKind x.Kinds, I x.Stack, I x.River, I x.Road, I x.Supply, I x.Turns]
structure DMap where
  Width : Int
  Height : Int
  Terrain : List Int
  Rivers : List Int
  Roads : List Int
def cMap (x : DMap) : List AV := [I x.Width, I x.Height, slc cI x.Terrain, slc cI x.Rivers, slc cI x.Roads]
structure DBoard where
  Rules : DRules
  Map : DMap
def cBoard (x : DBoard) : List AV := [slc cTerrain x.Rules.Terrains, slc cKind x.Rules.Kinds, I x.Rules.Stack, I x.Rules.River, I x.Rules.Road, I x.Rules.Supply, I x.Rules.Turns, I x.Map.Width, I x.Map.Height, slc cI x.Map.Terrain, slc cI x.Map.Rivers, slc cI x.Map.Roads]
structure DUnit where
  Side : Int
  Kind : Int
  At : Int
  Steps : Int
def cUnit (x : DUnit) : List AV := [I x.Side, I x.Kind, I x.At, I x.Steps]
def cLUnit (l : List DUnit) : List AV := [slc cUnit l]
structure DState where
  Turn : Int
  Weather : Int
  Units : List DUnit
def cState (x : DState) : List AV := [I x.Turn, I x.Weather, slc cUnit x.Units]
structure DWorks where
  Side : Int
  At : Int
  Points : Int
  Queue : List Int
def cWorks (x : DWorks) : List AV := [I x.Side, I x.At, I x.Points, slc cI x.Queue]
structure Dl1Cur where
  code_ : KSl
  at_ : Int
  seed_ : Int
def cl1Cur (x : Dl1Cur) : List AV := [Kn x.code_, I x.at_, K .u64 x.seed_]
structure A2I where
  a0 : Int
  a1 : Int
def cA2I (x : A2I) : List AV := [I x.a0, I x.a1]
def cLA2I (l : List A2I) : List AV := [slc cA2I l]
def cLLI (l : List (List Int)) : List AV := [slc cLI l]
def cLS (l : List ByteArray) : List AV := [slc cS l]
structure DHex where
  Q : Int
  R : Int
def cHex (x : DHex) : List AV := [I x.Q, I x.R]
structure A6Hex where
  a0 : DHex
  a1 : DHex
  a2 : DHex
  a3 : DHex
  a4 : DHex
  a5 : DHex
def cA6Hex (x : A6Hex) : List AV := [I x.a0.Q, I x.a0.R, I x.a1.Q, I x.a1.R, I x.a2.Q, I x.a2.R, I x.a3.Q, I x.a3.R, I x.a4.Q, I x.a4.R, I x.a5.Q, I x.a5.R]
def tblAt : List (TypeId × TE) → TypeId → Option TE
  | [], _ => none
  | (a, e) :: r, t => bif Nat.beq a t then some e else tblAt r t
def tLY : TE := ⟨List UInt8, false, cLY⟩
def tY : TE := ⟨UInt8, false, cY⟩
def tB : TE := ⟨Bool, false, cB⟩
def tI : TE := ⟨Int, false, cI⟩
def tBoard : TE := ⟨DBoard, true, cBoard⟩
def tRules : TE := ⟨DRules, true, cRules⟩
def tLTerrain : TE := ⟨List DTerrain, false, cLTerrain⟩
def tTerrain : TE := ⟨DTerrain, true, cTerrain⟩
def tS : TE := ⟨ByteArray, false, cS⟩
def tLI : TE := ⟨List Int, false, cLI⟩
def tLKind : TE := ⟨List DKind, false, cLKind⟩
def tKind : TE := ⟨DKind, true, cKind⟩
def tMap : TE := ⟨DMap, true, cMap⟩
def tState : TE := ⟨DState, true, cState⟩
def tLUnit : TE := ⟨List DUnit, false, cLUnit⟩
def tUnit : TE := ⟨DUnit, true, cUnit⟩
def tWorks : TE := ⟨DWorks, true, cWorks⟩
def tl1Cur : TE := ⟨Dl1Cur, true, cl1Cur⟩
def tU64 : TE := ⟨Int, false, cU64⟩
def tLA2I : TE := ⟨List A2I, false, cLA2I⟩
def tA2I : TE := ⟨A2I, true, cA2I⟩
def tLLI : TE := ⟨List (List Int), false, cLLI⟩
def tLS : TE := ⟨List ByteArray, false, cLS⟩
def tHex : TE := ⟨DHex, true, cHex⟩
def tA6Hex : TE := ⟨A6Hex, true, cA6Hex⟩
def tbl : Tbl := tblAt [(22, tLY), (5, tY), (4, tB), (3, tI), (31, tBoard), (30, tBoard), (26, tRules), (25, tRules), (23, tLTerrain), (105, tTerrain), (104, tTerrain), (9, tS), (27, tLI), (24, tLKind), (82, tKind), (81, tKind), (29, tMap), (28, tMap), (34, tState), (33, tState), (32, tLUnit), (51, tUnit), (50, tUnit), (36, tWorks), (35, tWorks), (58, tl1Cur), (57, tl1Cur), (56, tU64), (90, tLA2I), (93, tA2I), (110, tLLI), (128, tLS), (131, tHex), (130, tHex), (132, tA6Hex)]
def rowAt : List ((Nat × Nat) × Nat) → Nat → Nat → Option TypeId
  | [], _, _ => none
  | (a, h) :: r, f, i => bif Nat.beq a.1 f && Nat.beq a.2 i then some h else rowAt r f i
def rowTab : List ((Nat × Nat) × Nat) := [((3, 0), 5), ((3, 1), 5), ((3, 38), 5), ((3, 40), 5), ((3, 45), 5), ((3, 72), 5), ((3, 146), 51), ((3, 149), 51), ((3, 156), 3), ((3, 159), 3), ((3, 206), 3), ((3, 208), 3), ((3, 212), 51), ((3, 214), 51), ((3, 200005), 105), ((3, 300005), 82), ((3, 400005), 3), ((3, 500005), 3), ((3, 600005), 3), ((3, 200006), 51), ((3, 200007), 3), ((3, 200009), 51), ((3, 200010), 3), ((3, 200013), 51), ((3, 200014), 3), ((3, 200017), 105), ((3, 300017), 82), ((3, 400017), 3), ((3, 500017), 3), ((3, 600017), 3), ((3, 200018), 51), ((3, 200019), 3), ((3, 200022), 51), ((3, 200023), 3), ((3, 200026), 51), ((3, 200027), 3), ((4, 0), 5), ((4, 10), 5), ((4, 200002), 105), ((4, 300002), 82), ((4, 400002), 3), ((4, 500002), 3), ((4, 600002), 3), ((4, 200003), 51), ((4, 200004), 3), ((4, 200012), 5), ((4, 100015), 51), ((4, 200007), 105), ((4, 300007), 82), ((4, 400007), 3), ((4, 500007), 3), ((4, 600007), 3), ((4, 200008), 51), ((4, 200009), 3), ((5, 200004), 105), ((5, 300004), 82), ((5, 400004), 3), ((5, 500004), 3), ((5, 600004), 3), ((5, 200005), 51), ((5, 200006), 3), ((5, 200008), 51), ((5, 200009), 3), ((5, 100032), 51), ((5, 200012), 51), ((5, 200013), 3), ((6, 200004), 105), ((6, 300004), 82), ((6, 400004), 3), ((6, 500004), 3), ((6, 600004), 3), ((6, 200005), 51), ((6, 200006), 3), ((6, 200008), 51), ((6, 200009), 3), ((6, 100032), 51), ((6, 200012), 51), ((6, 200013), 3), ((7, 0), 5), ((7, 11), 5), ((7, 26), 3), ((7, 200002), 105), ((7, 300002), 82), ((7, 400002), 3), ((7, 500002), 3), ((7, 600002), 3), ((7, 200003), 51), ((7, 200004), 3), ((7, 200013), 5), ((7, 100016), 51), ((7, 200008), 105), ((7, 300008), 82), ((7, 400008), 3), ((7, 500008), 3), ((7, 600008), 3), ((7, 200009), 51), ((7, 200010), 3), ((8, 200005), 105), ((8, 300005), 82), ((8, 400005), 3), ((8, 500005), 3), ((8, 600005), 3), ((8, 200006), 51), ((8, 200007), 3), ((8, 200010), 51), ((8, 200011), 3), ((8, 100038), 51), ((8, 200014), 51), ((8, 200015), 3), ((8, 100049), 51), ((8, 200017), 51), ((8, 200018), 3), ((9, 200005), 105), ((9, 300005), 82), ((9, 400005), 3), ((9, 500005), 3), ((9, 600005), 3), ((9, 200006), 51), ((9, 200007), 3), ((9, 200010), 51), ((9, 200011), 3), ((9, 100038), 51), ((9, 200014), 51), ((9, 200015), 3), ((9, 100050), 51), ((9, 200017), 51), ((9, 200018), 3), ((10, 19), 51), ((10, 21), 51), ((10, 200002), 51), ((10, 200003), 51), ((11, 26), 3), ((11, 28), 3), ((11, 200002), 3), ((11, 200003), 3), ((12, 200002), 105), ((12, 300002), 82), ((12, 400002), 3), ((12, 500002), 3), ((12, 600002), 3), ((12, 200003), 51), ((13, 200002), 105), ((13, 300002), 82), ((13, 400002), 3), ((13, 500002), 3), ((13, 600002), 3), ((13, 200003), 3), ((14, 0), 3), ((14, 1), 3), ((14, 6), 3), ((14, 8), 3), ((14, 11), 3), ((14, 16), 3), ((14, 20), 3), ((15, 200002), 105), ((15, 300002), 82), ((15, 400002), 3), ((15, 500002), 3), ((15, 600002), 3), ((16, 18), 51), ((16, 26), 51), ((16, 29), 51), ((16, 200002), 105), ((16, 300002), 82), ((16, 400002), 3), ((16, 500002), 3), ((16, 600002), 3), ((16, 200003), 51), ((16, 200004), 3), ((16, 100011), 51), ((16, 200005), 105), ((16, 300005), 82), ((16, 400005), 3), ((16, 500005), 3), ((16, 600005), 3), ((16, 200006), 51), ((16, 200007), 3), ((17, 4), 3), ((18, 200003), 105), ((18, 300003), 82), ((18, 400003), 3), ((18, 500003), 3), ((18, 600003), 3), ((18, 200004), 51), ((18, 200005), 3), ((20, 30), 3), ((20, 34), 51), ((20, 42), 82), ((20, 48), 51), ((20, 49), 51), ((20, 59), 3), ((20, 60), 3), ((20, 200004), 105), ((20, 300004), 82), ((20, 400004), 3), ((20, 500004), 3), ((20, 600004), 3), ((20, 200005), 51), ((20, 200006), 3), ((20, 200008), 51), ((20, 200009), 3), ((20, 100014), 51), ((21, 200003), 105), ((21, 300003), 82), ((21, 400003), 3), ((21, 500003), 3), ((21, 600003), 3), ((21, 200004), 51), ((21, 200005), 3), ((23, 33), 3), ((23, 37), 51), ((23, 45), 82), ((23, 51), 51), ((23, 52), 51), ((23, 200004), 105), ((23, 300004), 82), ((23, 400004), 3), ((23, 500004), 3), ((23, 600004), 3), ((23, 200005), 51), ((23, 200006), 3), ((23, 200008), 51), ((23, 200009), 3), ((23, 100016), 51), ((24, 1), 3), ((24, 5), 3), ((24, 7), 3), ((26, 4), 51), ((26, 5), 51), ((26, 200001), 51), ((26, 200002), 51), ((26, 100005), 51), ((27, 4), 3), ((27, 5), 3), ((27, 200001), 3), ((27, 200002), 3), ((27, 100005), 3), ((28, 7), 51), ((28, 9), 51), ((28, 10), 51), ((28, 200001), 51), ((28, 200002), 51), ((29, 10), 3), ((29, 11), 3), ((29, 200001), 3), ((29, 200002), 3), ((30, 0), 51), ((30, 1), 51), ((30, 6), 51), ((30, 8), 51), ((30, 11), 51), ((30, 16), 51), ((30, 20), 51), ((31, 15), 3), ((31, 200001), 105), ((31, 300001), 82), ((31, 400001), 3), ((31, 500001), 3), ((31, 600001), 3), ((32, 5), 93), ((32, 23), 51), ((32, 29), 93), ((32, 31), 51), ((32, 44), 93), ((32, 55), 93), ((32, 66), 93), ((32, 200002), 105), ((32, 300002), 82), ((32, 400002), 3), ((32, 500002), 3), ((32, 600002), 3), ((32, 200003), 51), ((33, 25), 3), ((33, 30), 3), ((33, 200002), 105), ((33, 300002), 82), ((33, 400002), 3), ((33, 500002), 3), ((33, 600002), 3), ((33, 200003), 3), ((34, 11), 82), ((34, 200002), 105), ((34, 300002), 82), ((34, 400002), 3), ((34, 500002), 3), ((34, 600002), 3), ((35, 7), 82), ((35, 14), 82), ((35, 200002), 105), ((35, 300002), 82), ((35, 400002), 3), ((35, 500002), 3), ((35, 600002), 3), ((36, 200002), 105), ((36, 300002), 82), ((36, 400002), 3), ((36, 500002), 3), ((36, 600002), 3), ((36, 200003), 51), ((36, 200004), 105), ((36, 300004), 82), ((36, 400004), 3), ((36, 500004), 3), ((36, 600004), 3), ((36, 100010), 51), ((37, 10), 3), ((37, 29), 3), ((37, 33), 82), ((37, 36), 3), ((37, 37), 3), ((37, 44), 3), ((37, 50), 3), ((37, 56), 3), ((37, 58), 3), ((37, 60), 3), ((37, 61), 3), ((37, 66), 3), ((37, 73), 3), ((37, 74), 3), ((37, 75), 3), ((37, 200003), 105), ((37, 300003), 82), ((37, 400003), 3), ((37, 500003), 3), ((37, 600003), 3), ((37, 200004), 3), ((37, 200005), 3), ((40, 200002), 105), ((40, 300002), 82), ((40, 400002), 3), ((40, 500002), 3), ((40, 600002), 3), ((40, 200003), 51), ((41, 9), 3), ((41, 17), 3), ((41, 24), 51), ((41, 30), 3), ((41, 200003), 105), ((41, 300003), 82), ((41, 400003), 3), ((41, 500003), 3), ((41, 600003), 3), ((41, 200004), 51), ((41, 200005), 3), ((42, 29), 51), ((42, 34), 51), ((42, 46), 51), ((42, 62), 3), ((42, 71), 3), ((42, 200002), 105), ((42, 300002), 82), ((42, 400002), 3), ((42, 500002), 3), ((42, 600002), 3), ((42, 200003), 51), ((43, 28), 3), ((43, 34), 3), ((43, 37), 82), ((43, 200002), 105), ((43, 300002), 82), ((43, 400002), 3), ((43, 500002), 3), ((43, 600002), 3), ((43, 200003), 3), ((45, 9), 3), ((45, 17), 3), ((45, 24), 51), ((45, 30), 3), ((45, 53), 3), ((45, 200003), 105), ((45, 300003), 82), ((45, 400003), 3), ((45, 500003), 3), ((45, 600003), 3), ((45, 200004), 51), ((45, 200005), 3), ((46, 7), 82), ((46, 14), 82), ((46, 200002), 105), ((46, 300002), 82), ((46, 400002), 3), ((46, 500002), 3), ((46, 600002), 3), ((47, 16), 3), ((47, 27), 3), ((47, 29), 3), ((47, 30), 3), ((47, 200002), 3), ((47, 200004), 3), ((47, 200005), 3), ((48, 0), 51), ((48, 2), 51), ((48, 3), 51), ((48, 5), 51), ((48, 6), 51), ((48, 7), 51), ((49, 0), 3), ((49, 2), 3), ((49, 3), 3), ((49, 5), 3), ((49, 6), 3), ((49, 7), 3), ((50, 0), 3), ((50, 2), 3), ((50, 3), 3), ((50, 4), 3), ((50, 5), 3), ((51, 8), 105), ((51, 14), 82), ((51, 20), 105), ((51, 29), 82), ((51, 35), 105), ((51, 44), 82), ((51, 56), 82), ((51, 200001), 105), ((51, 300001), 82), ((51, 200004), 3), ((52, 6), 3), ((52, 21), 3), ((52, 31), 3), ((52, 42), 3), ((52, 44), 3), ((52, 45), 27), ((52, 50), 3), ((52, 51), 3), ((52, 54), 3), ((52, 200001), 3), ((52, 300001), 3), ((52, 400001), 3), ((53, 0), 3), ((53, 5), 3), ((54, 7), 105), ((55, 5), 3), ((55, 200001), 105), ((55, 300001), 82), ((55, 400001), 3), ((55, 500001), 3), ((55, 600001), 3), ((56, 14), 82), ((56, 24), 82), ((56, 200002), 105), ((56, 300002), 82), ((56, 400002), 3), ((56, 500002), 3), ((56, 600002), 3), ((59, 7), 82), ((60, 200002), 105), ((60, 300002), 82), ((60, 400002), 3), ((60, 500002), 3), ((60, 600002), 3), ((60, 200003), 105), ((60, 300003), 82), ((60, 400003), 3), ((60, 500003), 3), ((60, 600003), 3), ((61, 11), 51), ((61, 18), 51), ((61, 33), 3), ((61, 39), 3), ((61, 45), 51), ((61, 51), 3), ((61, 58), 51), ((61, 61), 3), ((61, 68), 51), ((61, 71), 3), ((61, 78), 51), ((61, 85), 51), ((61, 87), 51), ((61, 88), 51), ((61, 200003), 105), ((61, 300003), 82), ((61, 400003), 3), ((61, 500003), 3), ((61, 600003), 3), ((61, 200004), 51), ((61, 100015), 51), ((61, 200005), 51), ((62, 14), 3), ((62, 17), 105), ((62, 200001), 105), ((62, 300001), 82), ((62, 400001), 3), ((62, 500001), 3), ((62, 600001), 3), ((63, 10), 3), ((63, 200003), 3), ((63, 300003), 3), ((63, 400003), 3), ((64, 11), 5), ((64, 17), 5), ((64, 51), 5), ((65, 10), 3), ((65, 200003), 105), ((65, 300003), 82), ((65, 400003), 3), ((65, 500003), 3), ((65, 600003), 3), ((66, 20), 3), ((66, 200004), 105), ((66, 300004), 82), ((66, 400004), 3), ((66, 500004), 3), ((66, 600004), 3), ((66, 200005), 51), ((67, 12), 51), ((67, 200004), 105), ((67, 300004), 82), ((67, 400004), 3), ((67, 500004), 3), ((67, 600004), 3), ((67, 200005), 51), ((68, 14), 82), ((68, 25), 82), ((68, 200002), 105), ((68, 300002), 82), ((68, 400002), 3), ((68, 500002), 3), ((68, 600002), 3), ((69, 6), 3), ((69, 7), 3), ((69, 11), 51), ((69, 28), 3), ((69, 30), 3), ((69, 31), 3), ((69, 33), 3), ((69, 200003), 51), ((70, 200001), 3), ((70, 300001), 3), ((70, 400001), 3), ((71, 0), 3), ((71, 9), 3), ((72, 10), 3), ((72, 200003), 105), ((72, 300003), 82), ((72, 400003), 3), ((72, 500003), 3), ((72, 600003), 3), ((73, 8), 51), ((73, 200002), 51), ((74, 13), 3), ((74, 200004), 105), ((74, 300004), 82), ((74, 400004), 3), ((74, 500004), 3), ((74, 600004), 3), ((74, 200005), 51), ((75, 11), 3), ((75, 29), 3), ((75, 200002), 3), ((76, 0), 105), ((76, 5), 105), ((78, 0), 82), ((78, 5), 82), ((79, 0), 3), ((79, 5), 3), ((79, 10), 3), ((79, 15), 3), ((80, 200002), 3), ((80, 300002), 3), ((80, 400002), 3), ((81, 0), 3), ((81, 6), 3), ((81, 12), 3), ((82, 9), 105), ((82, 200002), 105), ((82, 300002), 82), ((82, 400002), 3), ((82, 500002), 3), ((82, 600002), 3), ((82, 100005), 105), ((82, 200005), 82), ((82, 200003), 105), ((82, 300003), 82), ((82, 100011), 3), ((82, 200011), 3), ((82, 300011), 3), ((83, 11), 105), ((83, 14), 3), ((83, 16), 3), ((83, 22), 105), ((83, 24), 9), ((83, 31), 82), ((83, 33), 3), ((83, 40), 82), ((83, 42), 82), ((83, 45), 82), ((83, 46), 82), ((83, 51), 3), ((83, 57), 3), ((83, 63), 105), ((83, 65), 3), ((83, 200002), 105), ((83, 300002), 82), ((83, 100005), 105), ((83, 200005), 82), ((83, 200003), 105), ((83, 300003), 82), ((84, 14), 3), ((84, 20), 3), ((84, 22), 3), ((84, 28), 3), ((84, 37), 3), ((84, 39), 3), ((84, 40), 3), ((84, 44), 3), ((84, 46), 3), ((84, 47), 3), ((84, 200002), 3), ((84, 300002), 3), ((84, 400002), 3), ((84, 100005), 3), ((84, 200005), 3), ((84, 300005), 3), ((84, 200003), 3), ((84, 300003), 3), ((84, 400003), 3), ((85, 30), 82), ((85, 37), 82), ((85, 55), 51), ((85, 57), 51), ((85, 58), 51), ((85, 65), 51), ((85, 67), 51), ((85, 200003), 105), ((85, 300003), 82), ((85, 400003), 3), ((85, 500003), 3), ((85, 600003), 3), ((85, 200004), 51), ((85, 200005), 51), ((86, 8), 105), ((86, 14), 82), ((86, 20), 105), ((86, 33), 105), ((86, 42), 3), ((86, 45), 82), ((86, 51), 3), ((86, 69), 82), ((86, 82), 82), ((86, 200001), 105), ((86, 300001), 82), ((86, 200004), 3), ((87, 13), 3), ((87, 21), 3), ((87, 27), 3), ((87, 33), 3), ((87, 200001), 3), ((87, 300001), 3), ((87, 400001), 3), ((89, 7), 105), ((89, 10), 3), ((89, 200002), 105), ((89, 300002), 82), ((89, 400002), 3), ((89, 500002), 3), ((89, 600002), 3), ((89, 200004), 3), ((90, 8), 51), ((90, 200002), 51), ((91, 4), 3), ((91, 5), 3), ((91, 8), 3), ((91, 10), 51), ((91, 21), 3), ((91, 23), 3), ((91, 24), 3), ((91, 26), 3), ((91, 200002), 51), ((92, 14), 82), ((92, 200003), 105), ((92, 300003), 82), ((92, 400003), 3), ((92, 500003), 3), ((92, 600003), 3), ((93, 7), 105), ((93, 10), 3), ((93, 200002), 105), ((93, 300002), 82), ((93, 400002), 3), ((93, 500002), 3), ((93, 600002), 3), ((93, 200004), 3), ((94, 8), 3), ((94, 9), 3), ((94, 13), 51), ((94, 31), 3), ((94, 33), 3), ((94, 34), 3), ((94, 36), 3), ((94, 200004), 105), ((94, 300004), 82), ((94, 400004), 3), ((94, 500004), 3), ((94, 600004), 3), ((94, 200005), 51), ((97, 0), 105), ((97, 6), 105), ((97, 12), 105), ((98, 200002), 3), ((99, 0), 82), ((99, 6), 82), ((99, 12), 82), ((101, 200003), 3), ((101, 300003), 3), ((101, 400003), 3), ((102, 3), 82), ((102, 5), 9), ((102, 43), 82), ((102, 44), 82), ((102, 48), 82), ((102, 61), 9), ((102, 70), 9), ((102, 73), 9), ((102, 93), 82), ((102, 102), 3), ((102, 104), 3), ((102, 105), 3), ((102, 109), 105), ((102, 111), 105), ((102, 112), 105), ((102, 200002), 105), ((102, 300002), 82), ((102, 200004), 105), ((102, 300004), 82), ((102, 200007), 3), ((103, 27), 3), ((103, 29), 3), ((103, 30), 3), ((103, 34), 3), ((103, 38), 3), ((103, 200004), 3), ((103, 300004), 3), ((103, 400004), 3), ((103, 200005), 3), ((103, 300005), 3), ((103, 400005), 3), ((103, 100034), 3), ((103, 100038), 3), ((104, 1), 9), ((104, 5), 9), ((104, 7), 9), ((106, 0), 105), ((106, 7), 105), ((106, 200006), 3), ((107, 0), 82), ((107, 7), 82), ((108, 1), 3), ((108, 7), 3), ((108, 30), 3), ((108, 200002), 3), ((108, 300002), 3), ((108, 400002), 3), ((109, 6), 3), ((109, 12), 3), ((109, 200002), 3), ((109, 300002), 3), ((109, 400002), 3), ((110, 200003), 3), ((110, 300003), 3), ((110, 400003), 3), ((111, 12), 51), ((111, 22), 82), ((111, 200004), 105), ((111, 300004), 82), ((111, 400004), 3), ((111, 500004), 3), ((111, 600004), 3), ((111, 200005), 51), ((112, 200002), 3), ((112, 300002), 3), ((112, 400002), 3), ((114, 200002), 3), ((114, 300002), 3), ((114, 400002), 3), ((115, 4), 3), ((115, 5), 3), ((115, 26), 3), ((115, 31), 3), ((115, 32), 3), ((115, 200003), 3), ((115, 300003), 3), ((115, 400003), 3), ((115, 100031), 3), ((116, 200003), 3), ((116, 300003), 3), ((116, 400003), 3), ((117, 0), 3), ((117, 9), 3), ((117, 25), 3), ((118, 0), 3), ((118, 5), 3), ((119, 8), 3), ((119, 200003), 3), ((119, 300003), 3), ((119, 400003), 3), ((120, 8), 3), ((120, 200003), 3), ((120, 300003), 3), ((120, 400003), 3), ((121, 0), 3), ((121, 4), 3), ((121, 6), 3), ((121, 8), 3), ((121, 12), 3), ((121, 22), 3), ((121, 26), 3), ((121, 33), 3), ((121, 34), 3), ((121, 35), 3), ((121, 37), 3), ((121, 38), 3), ((121, 39), 3), ((121, 41), 3), ((121, 42), 3), ((121, 43), 3), ((121, 44), 3), ((121, 46), 3), ((121, 47), 3), ((122, 200003), 3), ((122, 300003), 3), ((122, 400003), 3), ((123, 200002), 3), ((123, 300002), 3), ((123, 400002), 3), ((124, 7), 3), ((124, 14), 3), ((125, 200002), 3), ((125, 300002), 3), ((125, 400002), 3), ((126, 0), 3), ((126, 6), 3), ((126, 12), 3), ((127, 0), 3), ((127, 7), 3)]
def capAt : List (Nat × List (Option TypeId)) → Nat → List (Option TypeId)
  | [], _ => []
  | (a, h) :: r, f => bif Nat.beq a f then h else capAt r f
def ke16 : KE := ⟨DBoard × DState × DWorks, fun a => .tup [.agg [slc cTerrain a.1.Rules.Terrains, slc cKind a.1.Rules.Kinds, I a.1.Rules.Stack, I a.1.Rules.River, I a.1.Rules.Road, I a.1.Rules.Supply, I a.1.Rules.Turns, I a.1.Map.Width, I a.1.Map.Height, slc cI a.1.Map.Terrain, slc cI a.1.Map.Rivers, slc cI a.1.Map.Roads], .agg [I a.2.1.Turn, I a.2.1.Weather, .own (.r 0 0) none 0 a.2.1.Units.length a.2.1.Units.length], .agg [I a.2.2.Side, I a.2.2.At, I a.2.2.Points, slc cI a.2.2.Queue]], fun a => [(.r 0 0, some (rowB true false 4 cUnit a.2.1.Units))]⟩
def ke20 : KE := ⟨DState × DWorks × Int, fun a => .tup [.agg [I a.1.Turn, I a.1.Weather, .own (.r 0 0) none 0 a.1.Units.length a.1.Units.length], .agg [I a.2.1.Side, I a.2.1.At, I a.2.1.Points, slc cI a.2.1.Queue], I a.2.2], fun a => [(.r 0 0, some (rowB true false 4 cUnit a.1.Units))]⟩
def ke23 : KE := ⟨DState × DWorks × Int, fun a => .tup [.agg [I a.1.Turn, I a.1.Weather, .own (.r 0 0) none 0 a.1.Units.length a.1.Units.length], .agg [I a.2.1.Side, I a.2.1.At, I a.2.1.Points, slc cI a.2.1.Queue], I a.2.2], fun a => [(.r 0 0, some (rowB true false 4 cUnit a.1.Units))]⟩
def ke26 : KE := ⟨DState, fun a => .agg [I a.Turn, I a.Weather, .own (.r 0 0) none 0 a.Units.length a.Units.length], fun a => [(.r 0 0, some (rowB true false 4 cUnit a.Units))]⟩
def ke28 : KE := ⟨DState, fun a => .agg [I a.Turn, I a.Weather, .own (.r 0 0) none 0 a.Units.length a.Units.length], fun a => [(.r 0 0, some (rowB true false 4 cUnit a.Units))]⟩
def ke36 : KE := ⟨DBoard × DState, fun a => .tup [.agg [slc cTerrain a.1.Rules.Terrains, slc cKind a.1.Rules.Kinds, I a.1.Rules.Stack, I a.1.Rules.River, I a.1.Rules.Road, I a.1.Rules.Supply, I a.1.Rules.Turns, I a.1.Map.Width, I a.1.Map.Height, slc cI a.1.Map.Terrain, slc cI a.1.Map.Rivers, slc cI a.1.Map.Roads], .agg [I a.2.Turn, I a.2.Weather, .own (.r 0 0) none 0 a.2.Units.length a.2.Units.length]], fun a => [(.r 0 0, some (rowB true false 4 cUnit a.2.Units))]⟩
def ke48 : KE := ⟨List DUnit, fun a => .own (.r 0 0) none 0 a.length a.length, fun a => [(.r 0 0, some (rowB true false 4 cUnit a))]⟩
def ke49 : KE := ⟨List Int, fun a => .own (.r 0 0) none 0 a.length a.length, fun a => [(.r 0 0, some (rowB true false 1 cI a))]⟩
def ke61 : KE := ⟨DState, fun a => .agg [I a.Turn, I a.Weather, .own (.r 0 0) none 0 a.Units.length a.Units.length], fun a => [(.r 0 0, some (rowB true false 4 cUnit a.Units))]⟩
def ke85 : KE := ⟨DState, fun a => .agg [I a.Turn, I a.Weather, .own (.r 0 0) none 0 a.Units.length a.Units.length], fun a => [(.r 0 0, some (rowB true false 4 cUnit a.Units))]⟩
def cTerrainN (x : DTerrain) : List AV := [S x.Name, .nst 1 x.Cost.length (x.Cost.flatMap cI), I x.Shift, I x.Height, B x.Blocks]
def ke102 : KE := ⟨(DRules) × List DKind, fun a => .agg [.own (.r 0 0) none 0 a.1.Terrains.length a.1.Terrains.length, .own (.r 0 1) none 0 a.1.Kinds.length (a.1.Kinds.length + a.2.length), I a.1.Stack, I a.1.River, I a.1.Road, I a.1.Supply, I a.1.Turns], fun a => [(.r 0 0, some (rowB true true 5 cTerrainN a.1.Terrains)), (.r 0 1, some (rowB true false 6 cKind (a.1.Kinds ++ a.2)))]⟩
def ke103 : KE := ⟨DMap, fun a => .agg [I a.Width, I a.Height, .own (.r 0 0) none 0 a.Terrain.length a.Terrain.length, .own (.r 0 1) none 0 a.Rivers.length a.Rivers.length, .own (.r 0 2) none 0 a.Roads.length a.Roads.length], fun a => [(.r 0 0, some (rowB true false 1 cI a.Terrain)), (.r 0 1, some (rowB true false 1 cI a.Rivers)), (.r 0 2, some (rowB true false 1 cI a.Roads))]⟩
def ke115 : KE := ⟨List Int, fun a => .own (.r 0 0) none 0 a.length a.length, fun a => [(.r 0 0, some (rowB true false 1 cI a))]⟩
def ke121 : KE := ⟨List Int, fun a => .own (.r 0 0) none 0 a.length a.length, fun a => [(.r 0 0, some (rowB true false 1 cI a))]⟩
def kl121 : KE := ⟨Nat, fun a => .own (.l 0) none 0 a a, fun _ => []⟩
def tnTerrain : TE := ⟨DTerrain, true, cTerrainN⟩
def tblN : Tbl := tblAt [(105, tnTerrain), (104, tnTerrain)]
def T : Hn := { t := tbl, row := fun f id => match id with | .v t => rowAt rowTab f t | .h t k => (rowAt rowTab f (t + 100000 * (k + 1))).or (rowAt rowTab f t) | .r t k => (rowAt rowTab f (t + 100000 * (k + 1))).or (rowAt rowTab f t) | .l i => rowAt rowTab f i, n := tblN, cap := capAt [(54, [some 31]), (59, [some 31]), (98, [some 9]), (100, [some 9])], kept := fun f _ => bif Nat.beq f 16 then [ke16] else bif Nat.beq f 20 then [ke20] else bif Nat.beq f 23 then [ke23] else bif Nat.beq f 26 then [ke26] else bif Nat.beq f 28 then [ke28] else bif Nat.beq f 36 then [ke36] else bif Nat.beq f 48 then [ke48] else bif Nat.beq f 49 then [ke49] else bif Nat.beq f 61 then [ke61] else bif Nat.beq f 85 then [ke85] else bif Nat.beq f 102 then [ke102] else bif Nat.beq f 103 then [ke103] else bif Nat.beq f 115 then [ke115] else bif Nat.beq f 121 then [kl121, ke121] else [] }
def hintAt : List ((Nat × Nat) × List (Nat × Option Nat)) → Nat → Nat → List (Nat × Option Nat)
  | [], _, _ => []
  | (a, h) :: r, f, i => bif Nat.beq a.1 f && Nat.beq a.2 i then h else hintAt r f i
def hints : List ((Nat × Nat) × List (Nat × Option Nat)) := [((8, 5), [(3, none), (5, none), (10, none), (11, none), (14, none), (15, none), (16, none), (41, none), (42, none)]), ((9, 5), [(3, none), (4, none), (5, none), (10, none), (11, none), (14, none), (15, none), (16, none)]), ((14, 4), [(0, none), (1, none), (12, none), (13, none)]), ((30, 4), [(0, none), (1, none), (12, none), (13, none)]), ((32, 5), [(2, none), (5, none), (31, none), (32, none), (33, none)]), ((37, 6), [(0, none), (3, none), (4, none), (5, none), (6, none), (1005003, some 1)]), ((37, 17), [(0, none), (4, none), (5, none), (1005003, some 1)]), ((42, 4), [(2, none), (3, none), (34, none), (35, none), (36, none)]), ((42, 10), [(2, none), (3, none), (46, none), (47, none), (48, none)]), ((47, 3), [(1, none), (4, none), (5, none), (16, none), (17, none), (18, none), (1005003, some 1)]), ((51, 4), [(1, none), (20, none), (21, none), (22, none)]), ((51, 10), [(1, none), (44, none), (45, none), (46, none)]), ((52, 4), [(1, none), (31, none), (32, none), (33, none)]), ((52, 10), [(1, none), (45, none), (46, none), (47, none)]), ((52, 15), [(1, none), (45, none), (46, none), (47, none), (54, none), (55, none), (56, none)]), ((61, 17), [(0, none), (4, none), (5, none), (1005002, some 4)]), ((67, 2), [(2, none), (3, none), (4, none), (12, none), (13, none), (14, none)]), ((69, 3), [(1, none), (2, none), (7, some 1), (11, none), (12, none), (13, none)]), ((71, 2), [(1, none), (2, none), (9, none), (10, none), (11, none)]), ((73, 2), [(1, none), (8, none), (9, none), (10, none)]), ((79, 2), [(0, none), (3, none)]), ((81, 2), [(0, none), (1, none), (7, none), (8, none)]), ((85, 3), [(0, none), (3, none), (4, none), (5, none), (6, none), (1005002, some 4)]), ((86, 4), [(1, none), (20, none), (21, none), (22, none)]), ((86, 10), [(1, none), (69, none), (70, none), (71, none)]), ((90, 2), [(1, none), (8, none), (9, none), (10, none)]), ((91, 3), [(1, none), (5, some 1), (10, none), (11, none), (12, none)]), ((92, 4), [(2, none), (3, none), (4, none), (30, none)]), ((94, 3), [(2, none), (3, none), (4, none), (5, none), (9, some 1), (13, none), (14, none), (15, none)]), ((95, 2), [(0, none), (3, none)]), ((97, 2), [(0, none), (1, none), (7, none), (8, none)]), ((99, 2), [(0, none), (1, none), (7, none), (8, none)]), ((102, 5), [(0, none), (2, none), (4, none), (5, none), (6, none), (1004000, some 1005)]), ((102, 10), [(0, none), (2, none), (4, none), (5, none), (6, none), (7, none), (94, none), (95, none), (1007001, some 1)]), ((103, 3), [(0, none), (1, none), (4, none), (5, none), (6, none), (1005002, some 1)]), ((105, 2), [(0, none), (3, none)]), ((106, 2), [(1, none), (7, none), (8, none), (9, none)]), ((107, 2), [(1, none), (7, none), (8, none), (9, none)]), ((108, 2), [(1, none), (2, none), (7, none), (8, none), (9, none)]), ((111, 5), [(3, none), (4, none), (9, none), (10, none)]), ((115, 3), [(0, none), (3, none), (5, some 1), (6, none)]), ((117, 2), [(0, none), (1, none), (2, none), (9, none), (10, none), (11, none)]), ((121, 2), [(0, none), (1, none), (5, none)]), ((126, 2), [(0, none), (1, none), (7, none), (8, none)]), ((127, 2), [(1, none), (7, none), (8, none), (9, none)]), ((48, 1000002), [(0, none)]), ((49, 1000002), [(0, none)]), ((16, 1000000), [(0, some 5), (1, some 6), (9, some 1), (10, some 1), (11, some 1), (102, some 4), (203, some 1)]), ((20, 1000000), [(2, some 4), (103, some 1)]), ((23, 1000000), [(2, some 4), (103, some 1)]), ((26, 1000000), [(2, some 4)]), ((26, 1000001), [(0, none)]), ((28, 1000000), [(2, some 4)]), ((28, 1000001), [(0, none)]), ((36, 1000000), [(0, some 5), (1, some 6), (9, some 1), (10, some 1), (11, some 1), (102, some 4)]), ((48, 1000000), [(0, some 4)]), ((48, 1000001), [(0, none)]), ((49, 1000000), [(0, some 1)]), ((49, 1000001), [(0, none)]), ((61, 1000000), [(2, some 4)]), ((61, 1000001), [(0, none)]), ((85, 1000000), [(2, some 4)]), ((85, 1000001), [(0, none)]), ((102, 1000000), [(0, some 1005), (1, some 6)]), ((103, 1000000), [(2, some 1), (3, some 1), (4, some 1)]), ((103, 1000001), [(0, none)]), ((115, 1000000), [(0, some 1)]), ((115, 1000001), [(0, none)]), ((121, 1000000), [(0, some 1)]), ((121, 1000001), [(0, none)])]
variable [Inhabited Known]
noncomputable def G : Cfg := { kn := (default : Known).kn, P := Tryz.prog, glob := fun g => bif Nat.beq g 0 then some [I 1, I 0, I 1, I (-1), I 0, I (-1), I (-1), I 0, I (-1), I 1, I 0, I 1] else none, lend := fun f i => (Nat.beq f 121 && Nat.beq i 0), keep := fun f => Nat.beq f 121 || Nat.beq f 115 || Nat.beq f 103 || Nat.beq f 102 || Nat.beq f 85 || Nat.beq f 61 || Nat.beq f 36 || Nat.beq f 16 || Nat.beq f 26 || Nat.beq f 28 || Nat.beq f 20 || Nat.beq f 23 || Nat.beq f 48 || Nat.beq f 49, inl := fun f => Nat.beq f 102 || Nat.beq f 83, hint := hintAt hints }
end Go.Ev
/-
  LEMMAS on the program's data: cells are told apart, of one number; slice types; written by a program (types.py).
-/
namespace Go.Ev
open Go Go.Proofs
set_option linter.unusedSimpArgs false
theorem byte_inj (a b : UInt8) : ((a.toNat : Int) = (b.toNat : Int)) ↔ a = b := ⟨fun h => UInt8.toNat_inj.1 (by omega), fun h => h ▸ rfl⟩
theorem cY_eq (a b : UInt8) : cY a = cY b ↔ a = b := by simp [cY, byte_inj]
attribute [simp] cY_eq
theorem ok_cY : COk cY 1 := ⟨fun _ => rfl, fun a b h => (cY_eq a b).1 h⟩
@[simp] theorem rw_cY {fr nest : Bool} {l m : List UInt8} : rowB fr nest 1 cY l = rowB fr nest 1 cY m ↔ l = m := rowB_eq ok_cY (by decide)
@[simp] theorem slc_cY (l m : List UInt8) : slc cY l = slc cY m ↔ l = m := slc_eq ok_cY
theorem cLY_eq (a b : List UInt8) : cLY a = cLY b ↔ a = b := by simp [cLY, byte_inj]
attribute [simp] cLY_eq
theorem ok_cLY : COk cLY 1 := ⟨fun _ => rfl, fun a b h => (cLY_eq a b).1 h⟩
@[simp] theorem rw_cLY {fr nest : Bool} {l m : List (List UInt8)} : rowB fr nest 1 cLY l = rowB fr nest 1 cLY m ↔ l = m := rowB_eq ok_cLY (by decide)
@[simp] theorem slc_cLY (l m : List (List UInt8)) : slc cLY l = slc cLY m ↔ l = m := slc_eq ok_cLY
theorem cB_eq (a b : Bool) : cB a = cB b ↔ a = b := by simp [cB, byte_inj]
attribute [simp] cB_eq
theorem ok_cB : COk cB 1 := ⟨fun _ => rfl, fun a b h => (cB_eq a b).1 h⟩
@[simp] theorem rw_cB {fr nest : Bool} {l m : List Bool} : rowB fr nest 1 cB l = rowB fr nest 1 cB m ↔ l = m := rowB_eq ok_cB (by decide)
@[simp] theorem slc_cB (l m : List Bool) : slc cB l = slc cB m ↔ l = m := slc_eq ok_cB
theorem cI_eq (a b : Int) : cI a = cI b ↔ a = b := by simp [cI, byte_inj]
attribute [simp] cI_eq
theorem ok_cI : COk cI 1 := ⟨fun _ => rfl, fun a b h => (cI_eq a b).1 h⟩
@[simp] theorem rw_cI {fr nest : Bool} {l m : List Int} : rowB fr nest 1 cI l = rowB fr nest 1 cI m ↔ l = m := rowB_eq ok_cI (by decide)
@[simp] theorem slc_cI (l m : List Int) : slc cI l = slc cI m ↔ l = m := slc_eq ok_cI
theorem cS_eq (a b : ByteArray) : cS a = cS b ↔ a = b := by simp [cS, byte_inj]
attribute [simp] cS_eq
theorem ok_cS : COk cS 1 := ⟨fun _ => rfl, fun a b h => (cS_eq a b).1 h⟩
@[simp] theorem rw_cS {fr nest : Bool} {l m : List ByteArray} : rowB fr nest 1 cS l = rowB fr nest 1 cS m ↔ l = m := rowB_eq ok_cS (by decide)
@[simp] theorem slc_cS (l m : List ByteArray) : slc cS l = slc cS m ↔ l = m := slc_eq ok_cS
theorem cLI_eq (a b : List Int) : cLI a = cLI b ↔ a = b := by simp [cLI, byte_inj]
attribute [simp] cLI_eq
theorem ok_cLI : COk cLI 1 := ⟨fun _ => rfl, fun a b h => (cLI_eq a b).1 h⟩
@[simp] theorem rw_cLI {fr nest : Bool} {l m : List (List Int)} : rowB fr nest 1 cLI l = rowB fr nest 1 cLI m ↔ l = m := rowB_eq ok_cLI (by decide)
@[simp] theorem slc_cLI (l m : List (List Int)) : slc cLI l = slc cLI m ↔ l = m := slc_eq ok_cLI
theorem cTerrain_eq (a b : DTerrain) : cTerrain a = cTerrain b ↔ a = b := by
  obtain ⟨_, _, _, _, _⟩ := a
  obtain ⟨_, _, _, _, _⟩ := b
  simp [cTerrain, and_assoc, byte_inj]
attribute [simp] cTerrain_eq
theorem ok_cTerrain : COk cTerrain 5 := ⟨fun _ => rfl, fun a b h => (cTerrain_eq a b).1 h⟩
@[simp] theorem rw_cTerrain {fr nest : Bool} {l m : List DTerrain} : rowB fr nest 5 cTerrain l = rowB fr nest 5 cTerrain m ↔ l = m := rowB_eq ok_cTerrain (by decide)
@[simp] theorem slc_cTerrain (l m : List DTerrain) : slc cTerrain l = slc cTerrain m ↔ l = m := slc_eq ok_cTerrain
theorem cLTerrain_eq (a b : List DTerrain) : cLTerrain a = cLTerrain b ↔ a = b := by simp [cLTerrain, byte_inj]
attribute [simp] cLTerrain_eq
theorem ok_cLTerrain : COk cLTerrain 1 := ⟨fun _ => rfl, fun a b h => (cLTerrain_eq a b).1 h⟩
@[simp] theorem rw_cLTerrain {fr nest : Bool} {l m : List (List DTerrain)} : rowB fr nest 1 cLTerrain l = rowB fr nest 1 cLTerrain m ↔ l = m := rowB_eq ok_cLTerrain (by decide)
@[simp] theorem slc_cLTerrain (l m : List (List DTerrain)) : slc cLTerrain l = slc cLTerrain m ↔ l = m := slc_eq ok_cLTerrain
theorem cKind_eq (a b : DKind) : cKind a = cKind b ↔ a = b := by
  obtain ⟨_, _, _, _, _, _⟩ := a
  obtain ⟨_, _, _, _, _, _⟩ := b
  simp [cKind, and_assoc, byte_inj]
attribute [simp] cKind_eq
theorem ok_cKind : COk cKind 6 := ⟨fun _ => rfl, fun a b h => (cKind_eq a b).1 h⟩
@[simp] theorem rw_cKind {fr nest : Bool} {l m : List DKind} : rowB fr nest 6 cKind l = rowB fr nest 6 cKind m ↔ l = m := rowB_eq ok_cKind (by decide)
@[simp] theorem slc_cKind (l m : List DKind) : slc cKind l = slc cKind m ↔ l = m := slc_eq ok_cKind
theorem cLKind_eq (a b : List DKind) : cLKind a = cLKind b ↔ a = b := by simp [cLKind, byte_inj]
attribute [simp] cLKind_eq
theorem ok_cLKind : COk cLKind 1 := ⟨fun _ => rfl, fun a b h => (cLKind_eq a b).1 h⟩
@[simp] theorem rw_cLKind {fr nest : Bool} {l m : List (List DKind)} : rowB fr nest 1 cLKind l = rowB fr nest 1 cLKind m ↔ l = m := rowB_eq ok_cLKind (by decide)
@[simp] theorem slc_cLKind (l m : List (List DKind)) : slc cLKind l = slc cLKind m ↔ l = m := slc_eq ok_cLKind
theorem cRules_eq (a b : DRules) : cRules a = cRules b ↔ a = b := by
  obtain ⟨_, _, _, _, _, _, _⟩ := a
  obtain ⟨_, _, _, _, _, _, _⟩ := b
  simp [cRules, and_assoc, byte_inj]
attribute [simp] cRules_eq
theorem ok_cRules : COk cRules 7 := ⟨fun _ => rfl, fun a b h => (cRules_eq a b).1 h⟩
@[simp] theorem rw_cRules {fr nest : Bool} {l m : List DRules} : rowB fr nest 7 cRules l = rowB fr nest 7 cRules m ↔ l = m := rowB_eq ok_cRules (by decide)
@[simp] theorem slc_cRules (l m : List DRules) : slc cRules l = slc cRules m ↔ l = m := slc_eq ok_cRules
theorem cMap_eq (a b : DMap) : cMap a = cMap b ↔ a = b := by
  obtain ⟨_, _, _, _, _⟩ := a
  obtain ⟨_, _, _, _, _⟩ := b
  simp [cMap, and_assoc, byte_inj]
attribute [simp] cMap_eq
theorem ok_cMap : COk cMap 5 := ⟨fun _ => rfl, fun a b h => (cMap_eq a b).1 h⟩
@[simp] theorem rw_cMap {fr nest : Bool} {l m : List DMap} : rowB fr nest 5 cMap l = rowB fr nest 5 cMap m ↔ l = m := rowB_eq ok_cMap (by decide)
@[simp] theorem slc_cMap (l m : List DMap) : slc cMap l = slc cMap m ↔ l = m := slc_eq ok_cMap
theorem cBoard_eq (a b : DBoard) : cBoard a = cBoard b ↔ a = b := by
  obtain ⟨⟨_, _, _, _, _, _, _⟩, ⟨_, _, _, _, _⟩⟩ := a
  obtain ⟨⟨_, _, _, _, _, _, _⟩, ⟨_, _, _, _, _⟩⟩ := b
  simp [cBoard, and_assoc, byte_inj]
attribute [simp] cBoard_eq
theorem ok_cBoard : COk cBoard 12 := ⟨fun _ => rfl, fun a b h => (cBoard_eq a b).1 h⟩
@[simp] theorem rw_cBoard {fr nest : Bool} {l m : List DBoard} : rowB fr nest 12 cBoard l = rowB fr nest 12 cBoard m ↔ l = m := rowB_eq ok_cBoard (by decide)
@[simp] theorem slc_cBoard (l m : List DBoard) : slc cBoard l = slc cBoard m ↔ l = m := slc_eq ok_cBoard
theorem cUnit_eq (a b : DUnit) : cUnit a = cUnit b ↔ a = b := by
  obtain ⟨_, _, _, _⟩ := a
  obtain ⟨_, _, _, _⟩ := b
  simp [cUnit, and_assoc, byte_inj]
attribute [simp] cUnit_eq
theorem ok_cUnit : COk cUnit 4 := ⟨fun _ => rfl, fun a b h => (cUnit_eq a b).1 h⟩
@[simp] theorem rw_cUnit {fr nest : Bool} {l m : List DUnit} : rowB fr nest 4 cUnit l = rowB fr nest 4 cUnit m ↔ l = m := rowB_eq ok_cUnit (by decide)
@[simp] theorem slc_cUnit (l m : List DUnit) : slc cUnit l = slc cUnit m ↔ l = m := slc_eq ok_cUnit
theorem cLUnit_eq (a b : List DUnit) : cLUnit a = cLUnit b ↔ a = b := by simp [cLUnit, byte_inj]
attribute [simp] cLUnit_eq
theorem ok_cLUnit : COk cLUnit 1 := ⟨fun _ => rfl, fun a b h => (cLUnit_eq a b).1 h⟩
@[simp] theorem rw_cLUnit {fr nest : Bool} {l m : List (List DUnit)} : rowB fr nest 1 cLUnit l = rowB fr nest 1 cLUnit m ↔ l = m := rowB_eq ok_cLUnit (by decide)
@[simp] theorem slc_cLUnit (l m : List (List DUnit)) : slc cLUnit l = slc cLUnit m ↔ l = m := slc_eq ok_cLUnit
theorem cState_eq (a b : DState) : cState a = cState b ↔ a = b := by
  obtain ⟨_, _, _⟩ := a
  obtain ⟨_, _, _⟩ := b
  simp [cState, and_assoc, byte_inj]
attribute [simp] cState_eq
theorem ok_cState : COk cState 3 := ⟨fun _ => rfl, fun a b h => (cState_eq a b).1 h⟩
@[simp] theorem rw_cState {fr nest : Bool} {l m : List DState} : rowB fr nest 3 cState l = rowB fr nest 3 cState m ↔ l = m := rowB_eq ok_cState (by decide)
@[simp] theorem slc_cState (l m : List DState) : slc cState l = slc cState m ↔ l = m := slc_eq ok_cState
theorem cWorks_eq (a b : DWorks) : cWorks a = cWorks b ↔ a = b := by
  obtain ⟨_, _, _, _⟩ := a
  obtain ⟨_, _, _, _⟩ := b
  simp [cWorks, and_assoc, byte_inj]
attribute [simp] cWorks_eq
theorem ok_cWorks : COk cWorks 4 := ⟨fun _ => rfl, fun a b h => (cWorks_eq a b).1 h⟩
@[simp] theorem rw_cWorks {fr nest : Bool} {l m : List DWorks} : rowB fr nest 4 cWorks l = rowB fr nest 4 cWorks m ↔ l = m := rowB_eq ok_cWorks (by decide)
@[simp] theorem slc_cWorks (l m : List DWorks) : slc cWorks l = slc cWorks m ↔ l = m := slc_eq ok_cWorks
theorem cU64_eq (a b : Int) : cU64 a = cU64 b ↔ a = b := by simp [cU64, byte_inj]
attribute [simp] cU64_eq
theorem ok_cU64 : COk cU64 1 := ⟨fun _ => rfl, fun a b h => (cU64_eq a b).1 h⟩
@[simp] theorem rw_cU64 {fr nest : Bool} {l m : List Int} : rowB fr nest 1 cU64 l = rowB fr nest 1 cU64 m ↔ l = m := rowB_eq ok_cU64 (by decide)
@[simp] theorem slc_cU64 (l m : List Int) : slc cU64 l = slc cU64 m ↔ l = m := slc_eq ok_cU64
theorem cl1Cur_eq (a b : Dl1Cur) : cl1Cur a = cl1Cur b ↔ a = b := by
  obtain ⟨_, _, _⟩ := a
  obtain ⟨_, _, _⟩ := b
  simp [cl1Cur, and_assoc, byte_inj]
attribute [simp] cl1Cur_eq
theorem ok_cl1Cur : COk cl1Cur 3 := ⟨fun _ => rfl, fun a b h => (cl1Cur_eq a b).1 h⟩
@[simp] theorem rw_cl1Cur {fr nest : Bool} {l m : List Dl1Cur} : rowB fr nest 3 cl1Cur l = rowB fr nest 3 cl1Cur m ↔ l = m := rowB_eq ok_cl1Cur (by decide)
@[simp] theorem slc_cl1Cur (l m : List Dl1Cur) : slc cl1Cur l = slc cl1Cur m ↔ l = m := slc_eq ok_cl1Cur
theorem cA2I_eq (a b : A2I) : cA2I a = cA2I b ↔ a = b := by
  obtain ⟨_, _⟩ := a
  obtain ⟨_, _⟩ := b
  simp [cA2I, and_assoc, byte_inj]
attribute [simp] cA2I_eq
theorem ok_cA2I : COk cA2I 2 := ⟨fun _ => rfl, fun a b h => (cA2I_eq a b).1 h⟩
@[simp] theorem rw_cA2I {fr nest : Bool} {l m : List A2I} : rowB fr nest 2 cA2I l = rowB fr nest 2 cA2I m ↔ l = m := rowB_eq ok_cA2I (by decide)
@[simp] theorem slc_cA2I (l m : List A2I) : slc cA2I l = slc cA2I m ↔ l = m := slc_eq ok_cA2I
theorem cLA2I_eq (a b : List A2I) : cLA2I a = cLA2I b ↔ a = b := by simp [cLA2I, byte_inj]
attribute [simp] cLA2I_eq
theorem ok_cLA2I : COk cLA2I 1 := ⟨fun _ => rfl, fun a b h => (cLA2I_eq a b).1 h⟩
@[simp] theorem rw_cLA2I {fr nest : Bool} {l m : List (List A2I)} : rowB fr nest 1 cLA2I l = rowB fr nest 1 cLA2I m ↔ l = m := rowB_eq ok_cLA2I (by decide)
@[simp] theorem slc_cLA2I (l m : List (List A2I)) : slc cLA2I l = slc cLA2I m ↔ l = m := slc_eq ok_cLA2I
theorem cLLI_eq (a b : List (List Int)) : cLLI a = cLLI b ↔ a = b := by simp [cLLI, byte_inj]
attribute [simp] cLLI_eq
theorem ok_cLLI : COk cLLI 1 := ⟨fun _ => rfl, fun a b h => (cLLI_eq a b).1 h⟩
@[simp] theorem rw_cLLI {fr nest : Bool} {l m : List (List (List Int))} : rowB fr nest 1 cLLI l = rowB fr nest 1 cLLI m ↔ l = m := rowB_eq ok_cLLI (by decide)
@[simp] theorem slc_cLLI (l m : List (List (List Int))) : slc cLLI l = slc cLLI m ↔ l = m := slc_eq ok_cLLI
theorem cLS_eq (a b : List ByteArray) : cLS a = cLS b ↔ a = b := by simp [cLS, byte_inj]
attribute [simp] cLS_eq
theorem ok_cLS : COk cLS 1 := ⟨fun _ => rfl, fun a b h => (cLS_eq a b).1 h⟩
@[simp] theorem rw_cLS {fr nest : Bool} {l m : List (List ByteArray)} : rowB fr nest 1 cLS l = rowB fr nest 1 cLS m ↔ l = m := rowB_eq ok_cLS (by decide)
@[simp] theorem slc_cLS (l m : List (List ByteArray)) : slc cLS l = slc cLS m ↔ l = m := slc_eq ok_cLS
theorem cHex_eq (a b : DHex) : cHex a = cHex b ↔ a = b := by
  obtain ⟨_, _⟩ := a
  obtain ⟨_, _⟩ := b
  simp [cHex, and_assoc, byte_inj]
attribute [simp] cHex_eq
theorem ok_cHex : COk cHex 2 := ⟨fun _ => rfl, fun a b h => (cHex_eq a b).1 h⟩
@[simp] theorem rw_cHex {fr nest : Bool} {l m : List DHex} : rowB fr nest 2 cHex l = rowB fr nest 2 cHex m ↔ l = m := rowB_eq ok_cHex (by decide)
@[simp] theorem slc_cHex (l m : List DHex) : slc cHex l = slc cHex m ↔ l = m := slc_eq ok_cHex
theorem cA6Hex_eq (a b : A6Hex) : cA6Hex a = cA6Hex b ↔ a = b := by
  obtain ⟨⟨_, _⟩, ⟨_, _⟩, ⟨_, _⟩, ⟨_, _⟩, ⟨_, _⟩, ⟨_, _⟩⟩ := a
  obtain ⟨⟨_, _⟩, ⟨_, _⟩, ⟨_, _⟩, ⟨_, _⟩, ⟨_, _⟩, ⟨_, _⟩⟩ := b
  simp [cA6Hex, and_assoc, byte_inj]
attribute [simp] cA6Hex_eq
theorem ok_cA6Hex : COk cA6Hex 12 := ⟨fun _ => rfl, fun a b h => (cA6Hex_eq a b).1 h⟩
@[simp] theorem rw_cA6Hex {fr nest : Bool} {l m : List A6Hex} : rowB fr nest 12 cA6Hex l = rowB fr nest 12 cA6Hex m ↔ l = m := rowB_eq ok_cA6Hex (by decide)
@[simp] theorem slc_cA6Hex (l m : List A6Hex) : slc cA6Hex l = slc cA6Hex m ↔ l = m := slc_eq ok_cA6Hex
theorem cTerrainN_eq (a b : DTerrain) : cTerrainN a = cTerrainN b ↔ a = b := by
  obtain ⟨_, _, _, _, _⟩ := a
  obtain ⟨_, _, _, _, _⟩ := b
  simp only [cTerrainN, List.cons.injEq, AV.sc.injEq, Value.string.injEq, Value.int.injEq, Value.bool.injEq, nst_eq ok_cI, true_and, and_true, DTerrain.mk.injEq]
attribute [simp] cTerrainN_eq
theorem ok_cTerrainN : COk cTerrainN 5 := ⟨fun _ => rfl, fun a b h => (cTerrainN_eq a b).1 h⟩
@[simp] theorem rw_cTerrainN {fr nest : Bool} {l m : List DTerrain} : rowB fr nest 5 cTerrainN l = rowB fr nest 5 cTerrainN m ↔ l = m := rowB_eq ok_cTerrainN (by decide)
theorem sl_cY : SlOk Tryz.prog 22 cY := ⟨5, 1, by kernel_rfl, by kernel_rfl, ok_cY⟩
theorem rt_cY : RowT Tryz.prog 22 cY 1 1 := ⟨ok_cY, by decide, fun _ => rfl, ⟨5, [.sc (.int .u8 0)], by kernel_rfl, by kernel_rfl, by kernel_rfl, by kernel_rfl, rfl⟩⟩
theorem ag_cY : szT Tryz.prog 5 = some 1 ∧ aggT Tryz.prog 5 = some false := ⟨by kernel_rfl, by kernel_rfl⟩
theorem sl_cTerrain : SlOk Tryz.prog 23 cTerrain := ⟨105, 5, by kernel_rfl, by kernel_rfl, ok_cTerrain⟩
theorem rt_cTerrain : RowT Tryz.prog 23 cTerrain 5 64 := ⟨ok_cTerrain, by decide, fun _ => rfl, ⟨105, [S ByteArray.empty, .emp, I 0, I 0, B false], by kernel_rfl, by kernel_rfl, by kernel_rfl, by kernel_rfl, rfl⟩⟩
theorem ag_cTerrain : szT Tryz.prog 105 = some 5 ∧ aggT Tryz.prog 105 = some true := ⟨by kernel_rfl, by kernel_rfl⟩
theorem str_ok : isStrT Tryz.prog 9 = true := by kernel_rfl
theorem sl_cI : SlOk Tryz.prog 27 cI := ⟨3, 1, by kernel_rfl, by kernel_rfl, ok_cI⟩
theorem rt_cI : RowT Tryz.prog 27 cI 1 8 := ⟨ok_cI, by decide, fun _ => rfl, ⟨3, [I 0], by kernel_rfl, by kernel_rfl, by kernel_rfl, by kernel_rfl, rfl⟩⟩
theorem ag_cI : szT Tryz.prog 3 = some 1 ∧ aggT Tryz.prog 3 = some false := ⟨by kernel_rfl, by kernel_rfl⟩
theorem sl_cKind : SlOk Tryz.prog 24 cKind := ⟨82, 6, by kernel_rfl, by kernel_rfl, ok_cKind⟩
theorem rt_cKind : RowT Tryz.prog 24 cKind 6 56 := ⟨ok_cKind, by decide, fun _ => rfl, ⟨82, [S ByteArray.empty, I 0, I 0, I 0, B false, I 0], by kernel_rfl, by kernel_rfl, by kernel_rfl, by kernel_rfl, rfl⟩⟩
theorem ag_cKind : szT Tryz.prog 82 = some 6 ∧ aggT Tryz.prog 82 = some true := ⟨by kernel_rfl, by kernel_rfl⟩
theorem sl_cUnit : SlOk Tryz.prog 32 cUnit := ⟨51, 4, by kernel_rfl, by kernel_rfl, ok_cUnit⟩
theorem rt_cUnit : RowT Tryz.prog 32 cUnit 4 32 := ⟨ok_cUnit, by decide, fun _ => rfl, ⟨51, [I 0, I 0, I 0, I 0], by kernel_rfl, by kernel_rfl, by kernel_rfl, by kernel_rfl, rfl⟩⟩
theorem ag_cUnit : szT Tryz.prog 51 = some 4 ∧ aggT Tryz.prog 51 = some true := ⟨by kernel_rfl, by kernel_rfl⟩
theorem sl_cA2I : SlOk Tryz.prog 90 cA2I := ⟨93, 2, by kernel_rfl, by kernel_rfl, ok_cA2I⟩
theorem rt_cA2I : RowT Tryz.prog 90 cA2I 2 16 := ⟨ok_cA2I, by decide, fun _ => rfl, ⟨93, [I 0, I 0], by kernel_rfl, by kernel_rfl, by kernel_rfl, by kernel_rfl, rfl⟩⟩
theorem ag_cA2I : szT Tryz.prog 93 = some 2 ∧ aggT Tryz.prog 93 = some true := ⟨by kernel_rfl, by kernel_rfl⟩
theorem ar_cA2I : arT Tryz.prog 93 = some (2, 3) ∧ szT Tryz.prog 3 = some 1 ∧ slT Tryz.prog 93 = none := ⟨by kernel_rfl, by kernel_rfl, by kernel_rfl⟩
theorem sl_cLI : SlOk Tryz.prog 110 cLI := ⟨27, 1, by kernel_rfl, by kernel_rfl, ok_cLI⟩
theorem rt_cLI : RowT Tryz.prog 110 cLI 1 24 := ⟨ok_cLI, by decide, fun _ => rfl, ⟨27, [.emp], by kernel_rfl, by kernel_rfl, by kernel_rfl, by kernel_rfl, rfl⟩⟩
theorem ag_cLI : szT Tryz.prog 27 = some 1 ∧ aggT Tryz.prog 27 = some false := ⟨by kernel_rfl, by kernel_rfl⟩
theorem sl_cS : SlOk Tryz.prog 128 cS := ⟨9, 1, by kernel_rfl, by kernel_rfl, ok_cS⟩
theorem rt_cS : RowT Tryz.prog 128 cS 1 16 := ⟨ok_cS, by decide, fun _ => rfl, ⟨9, [S ByteArray.empty], by kernel_rfl, by kernel_rfl, by kernel_rfl, by kernel_rfl, rfl⟩⟩
theorem ag_cS : szT Tryz.prog 9 = some 1 ∧ aggT Tryz.prog 9 = some false := ⟨by kernel_rfl, by kernel_rfl⟩
theorem ar_cA6Hex : arT Tryz.prog 132 = some (6, 131) ∧ szT Tryz.prog 131 = some 2 ∧ slT Tryz.prog 132 = none := ⟨by kernel_rfl, by kernel_rfl, by kernel_rfl⟩
end Go.Ev
