/-
  P5: one of the texts behind a proof of laws.FnSupply: what functions that are reached come to, as a term
  Its conditions: none of its own.
-/
import Derived.Test.YtpaoafaegpldoaaGreatDoorP1
set_option maxRecDepth 100000
set_option linter.unusedVariables false
set_option linter.unusedSectionVars false
set_option linter.unusedSimpArgs false
set_option linter.unnecessarySimpa false
namespace Go.Ev
open Go Go.Proofs
variable [Inhabited Known]
noncomputable def P_spec_l1Cur_board (ml_0 : Dl1Cur) : Option R :=
  cl_spec_l1Cur_rules ml_0 fun (v58 : (DRules × List DKind) × Dl1Cur) => cl_spec_l1Cur_mapOf v58.snd (↑(List.length v58.fst.fst.Terrains) : Int) fun (v59 : DMap × Dl1Cur) => cast (fun (a : DBoard) => AV.agg [slc cTerrain a.Rules.Terrains, slc cKind a.Rules.Kinds, I a.Rules.Stack, I a.Rules.River, I a.Rules.Road, I a.Rules.Supply, I a.Rules.Turns, I a.Map.Width, I a.Map.Height, slc cI a.Map.Terrain, slc cI a.Map.Rivers, slc cI a.Map.Roads]) (giveUpT [(Id.l 0, bl [Kn v59.snd.code_, I v59.snd.at_, K IntKind.u64 v59.snd.seed_]), (Id.v 2, bx [AV.own (Id.r 5 0) none 0 (List.length v58.fst.fst.Terrains) (List.length v58.fst.fst.Terrains), AV.own (Id.r 5 1) none 0 (List.length v58.fst.fst.Kinds) (List.length v58.fst.fst.Kinds + List.length v58.fst.snd), I v58.fst.fst.Stack, I v58.fst.fst.River, I v58.fst.fst.Road, I v58.fst.fst.Supply, I v58.fst.fst.Turns, I v59.fst.Width, I v59.fst.Height, AV.own (Id.r 11 0) none 0 (List.length v59.fst.Terrain) (List.length v59.fst.Terrain), AV.own (Id.r 11 1) none 0 (List.length v59.fst.Rivers) (List.length v59.fst.Rivers), AV.own (Id.r 11 2) none 0 (List.length v59.fst.Roads) (List.length v59.fst.Roads)]), (Id.r 5 0, some (rowB true true 5 cTerrainN v58.fst.fst.Terrains)), (Id.r 5 1, some (rowB true false 6 cKind (v58.fst.fst.Kinds ++ v58.fst.snd))), (Id.v 3, bx [AV.own (Id.r 5 0) none 0 (List.length v58.fst.fst.Terrains) (List.length v58.fst.fst.Terrains), AV.own (Id.r 5 1) none 0 (List.length v58.fst.fst.Kinds) (List.length v58.fst.fst.Kinds + List.length v58.fst.snd), I v58.fst.fst.Stack, I v58.fst.fst.River, I v58.fst.fst.Road, I v58.fst.fst.Supply, I v58.fst.fst.Turns]), (Id.r 11 0, some (rowB true false 1 cI v59.fst.Terrain)), (Id.r 11 1, some (rowB true false 1 cI v59.fst.Rivers)), (Id.r 11 2, some (rowB true false 1 cI v59.fst.Roads))] (AV.agg [AV.own (Id.r 5 0) none 0 (List.length v58.fst.fst.Terrains) (List.length v58.fst.fst.Terrains), AV.own (Id.r 5 1) none 0 (List.length v58.fst.fst.Kinds) (List.length v58.fst.fst.Kinds + List.length v58.fst.snd), I v58.fst.fst.Stack, I v58.fst.fst.River, I v58.fst.fst.Road, I v58.fst.fst.Supply, I v58.fst.fst.Turns, I v59.fst.Width, I v59.fst.Height, AV.own (Id.r 11 0) none 0 (List.length v59.fst.Terrain) (List.length v59.fst.Terrain), AV.own (Id.r 11 1) none 0 (List.length v59.fst.Rivers) (List.length v59.fst.Rivers), AV.own (Id.r 11 2) none 0 (List.length v59.fst.Roads) (List.length v59.fst.Roads)])) fun (v60 : DBoard) => some (AV.agg (cBoard v60), [(Id.l 0, bl (cl1Cur v59.snd))])
theorem e_spec_l1Cur_board (ml_0 : Dl1Cur) : OLe (P_spec_l1Cur_board ml_0) (A_spec_l1Cur_board ml_0) := fun _ h => by
  unfold A_spec_l1Cur_board
  exact funK_le (T := T) Tryz.func77 (Eq.trans (by kernel_rfl) h)
noncomputable def P_spec_bCost (b0 : DBoard) (kind1 : Int) (i2 : Int) : Option R :=
  cl_spec_bTerrain b0 i2 fun (v61 : DTerrain) => ixA Tryz.prog 27 cI (slc cI v61.Cost) (I kind1) fun (v62 : Int) => some (I v62, [])
theorem e_spec_bCost (b0 : DBoard) (kind1 : Int) (i2 : Int) : OLe (P_spec_bCost b0 kind1 i2) (A_spec_bCost b0 kind1 i2) := fun _ h => by
  unfold A_spec_bCost
  exact funK_le (T := T) Tryz.func75 (Eq.trans (by kernel_rfl) h)
noncomputable def P_impl_isIndex (i0 : Int) (many1 : Int) : Option R :=
  cl_impl_inRange i0 0 (IntKind.wrap IntKind.i64 (many1 - 1)) fun (v63 : Bool) => some (B v63, [])
theorem e_impl_isIndex (i0 : Int) (many1 : Int) : OLe (P_impl_isIndex i0 many1) (A_impl_isIndex i0 many1) := fun _ h => by
  unfold A_impl_isIndex
  exact funK_le (T := T) Tryz.func32 (Eq.trans (by kernel_rfl) h)
noncomputable def P_impl_kindIndex (list0 : List DKind) (name1 : ByteArray) : Option R :=
  cl_slices_IndexFunc_Kind_of_impl_kindIndex_1 name1 list0 fun (v64 : Int × ByteArray) => some (I v64.fst, [])
theorem e_impl_kindIndex (list0 : List DKind) (name1 : ByteArray) : OLe (P_impl_kindIndex list0 name1) (A_impl_kindIndex list0 name1) := fun _ h => by
  unfold A_impl_kindIndex
  exact funK_le (T := T) Tryz.func111 (Eq.trans (by kernel_rfl) h)
noncomputable def P_impl_CheckSupplyPath_L8 (mh_13_0 : List Bool) (mh_5_0 : DBoard) (path4 : List Int) (x70 : List Int) (x71 : Int) (x72 : Int) : Option R :=
  if decide (x72 < x71) = true then ixA Tryz.prog 27 cI (slc cI x70) (I x72) fun (v66 : Int) => cl_impl_sizeOf mh_5_0 fun (v67 : Int) => cl_impl_isIndex v66 v67 fun (v68 : Bool) => if (!v68) = true then some (AV.tup [B false, B true], []) else oxA Tryz.prog 54 (Id.h 13 0) none 1 (AV.own (Id.h 13 0) none 0 (List.length mh_13_0) (List.length mh_13_0)) (I v66) fun (v69 : Nat) => cast (fun (a : Bool) => B a) (loadA G [(Id.h 5 0, bx (cBoard mh_5_0)), (Id.h 13 0, some (rowB true false 1 cB mh_13_0))] 4 (AV.ptr (Id.h 13 0) none (v69 * 1))) fun (v70 : Bool) => if (!v70) = true then some (AV.tup [B false, B true], []) else if decide (0 < x72) = true then ixA Tryz.prog 27 cI (slc cI path4) (I (IntKind.wrap IntKind.i64 (x72 - 1))) fun (v71 : Int) => cl_impl_hexOf mh_5_0.Map v71 fun (v72 : DHex) => cl_impl_hexOf mh_5_0.Map v66 fun (v73 : DHex) => cl_impl_distance v72 v73 fun (v74 : Int) => if (v74 != 1) = true then some (AV.tup [B false, B true], []) else L_impl_CheckSupplyPath_L8 mh_13_0 mh_5_0 path4 x70 x71 (IntKind.wrap IntKind.i64 (x72 + 1)) else L_impl_CheckSupplyPath_L8 mh_13_0 mh_5_0 path4 x70 x71 (IntKind.wrap IntKind.i64 (x72 + 1)) else some (AV.tup [B true, B true], [])
theorem e_impl_CheckSupplyPath_L8 (mh_13_0 : List Bool) (mh_5_0 : DBoard) (path4 : List Int) (x70 : List Int) (x71 : Int) (x72 : Int) : OLe (P_impl_CheckSupplyPath_L8 mh_13_0 mh_5_0 path4 x70 x71 x72) (L_impl_CheckSupplyPath_L8 mh_13_0 mh_5_0 path4 x70 x71 x72) := fun _ h => by
  unfold L_impl_CheckSupplyPath_L8
  exact lpK_le (Eq.trans (by kernel_rfl) h)
noncomputable def P_impl_controls_L4 (mh_3_0 : DBoard) (mh_4_0 : DUnit) (i2 : Int) (x30 : Int) : Option R :=
  if decide (x30 < 6) = true then cl_impl_nextTo mh_3_0.Map mh_4_0.At x30 fun (v78 : Int) => if (v78 == i2) = true then cl_impl_edgeOf mh_3_0.Map mh_4_0.At x30 fun (v79 : Int) => cl_impl_crossesFreely mh_3_0.Map v79 fun (v80 : Bool) => some (B v80, []) else L_impl_controls_L4 mh_3_0 mh_4_0 i2 (IntKind.wrap IntKind.i64 (x30 + 1)) else some (B false, [])
theorem e_impl_controls_L4 (mh_3_0 : DBoard) (mh_4_0 : DUnit) (i2 : Int) (x30 : Int) : OLe (P_impl_controls_L4 mh_3_0 mh_4_0 i2 x30) (L_impl_controls_L4 mh_3_0 mh_4_0 i2 x30) := fun _ h => by
  unfold L_impl_controls_L4
  exact lpK_le (Eq.trans (by kernel_rfl) h)
noncomputable def P_impl_inZone_L2 (mh_4_0 : DBoard) (side2 : Int) (i3 : Int) (x12 : List DUnit) (x13 : Int) (x14 : Int) : Option R :=
  if decide (x14 < x13) = true then ixA Tryz.prog 32 cUnit (slc cUnit x12) (I x14) fun (v81 : DUnit) => if (v81.Side == side2) = true then cl_impl_controls mh_4_0 v81 i3 fun (v82 : Bool) => if v82 = true then some (B true, []) else L_impl_inZone_L2 mh_4_0 side2 i3 x12 x13 (IntKind.wrap IntKind.i64 (x14 + 1)) else L_impl_inZone_L2 mh_4_0 side2 i3 x12 x13 (IntKind.wrap IntKind.i64 (x14 + 1)) else some (B false, [])
theorem e_impl_inZone_L2 (mh_4_0 : DBoard) (side2 : Int) (i3 : Int) (x12 : List DUnit) (x13 : Int) (x14 : Int) : OLe (P_impl_inZone_L2 mh_4_0 side2 i3 x12 x13 x14) (L_impl_inZone_L2 mh_4_0 side2 i3 x12 x13 x14) := fun _ h => by
  unfold L_impl_inZone_L2
  exact lpK_le (Eq.trans (by kernel_rfl) h)
noncomputable def P_impl_increasing_L2 (list0 : List Int) (i3 : Int) : Option R :=
  if decide (i3 < (↑(List.length list0) : Int)) = true then ixA Tryz.prog 27 cI (slc cI list0) (I (IntKind.wrap IntKind.i64 (i3 - 1))) fun (v83 : Int) => ixA Tryz.prog 27 cI (slc cI list0) (I i3) fun (v84 : Int) => if decide (v84 ≤ v83) = true then some (B false, []) else L_impl_increasing_L2 list0 (IntKind.wrap IntKind.i64 (i3 + 1)) else some (B true, [])
theorem e_impl_increasing_L2 (list0 : List Int) (i3 : Int) : OLe (P_impl_increasing_L2 list0 i3) (L_impl_increasing_L2 list0 i3) := fun _ h => by
  unfold L_impl_increasing_L2
  exact lpK_le (Eq.trans (by kernel_rfl) h)
noncomputable def P_spec_l1All_L2 (lo1 : Int) (hi2 : Int) (x9 : List Int) (x10 : Int) (x11 : Int) : Option R :=
  if decide (x11 < x10) = true then ixA Tryz.prog 27 cI (slc cI x9) (I x11) fun (v85 : Int) => cl_spec_l1In v85 lo1 hi2 fun (v86 : Bool) => if (!v86) = true then some (B false, []) else L_spec_l1All_L2 lo1 hi2 x9 x10 (IntKind.wrap IntKind.i64 (x11 + 1)) else some (B true, [])
theorem e_spec_l1All_L2 (lo1 : Int) (hi2 : Int) (x9 : List Int) (x10 : Int) (x11 : Int) : OLe (P_spec_l1All_L2 lo1 hi2 x9 x10 x11) (L_spec_l1All_L2 lo1 hi2 x9 x10 x11) := fun _ h => by
  unfold L_spec_l1All_L2
  exact lpK_le (Eq.trans (by kernel_rfl) h)
noncomputable def P_slices_IndexFunc_Kind_of_impl_kindIndex_1 (ml_0f0 : ByteArray) (s0 : List DKind) : Option R :=
  L_slices_IndexFunc_Kind_of_impl_kindIndex_1_L2 ml_0f0 s0 (↑(List.length s0) : Int) 0
theorem e_slices_IndexFunc_Kind_of_impl_kindIndex_1 (ml_0f0 : ByteArray) (s0 : List DKind) : OLe (P_slices_IndexFunc_Kind_of_impl_kindIndex_1 ml_0f0 s0) (A_slices_IndexFunc_Kind_of_impl_kindIndex_1 ml_0f0 s0) := fun _ h => by
  unfold A_slices_IndexFunc_Kind_of_impl_kindIndex_1
  exact funK_le (T := T) Tryz.func120 (Eq.trans (by kernel_rfl) h)
noncomputable def P_slices_IndexFunc_Kind_of_impl_kindIndex_1_L2 (ml_0f0 : ByteArray) (s0 : List DKind) (x7 : Int) (x8 : Int) : Option R :=
  if decide (x8 < x7) = true then ixA Tryz.prog 24 cKind (slc cKind s0) (I x8) fun (v90 : DKind) => cl_impl_kindIndex_1 ml_0f0 v90 fun (v91 : Bool × ByteArray) => if v91.fst = true then some (I x8, [(Id.l 0, bl [S v91.snd])]) else L_slices_IndexFunc_Kind_of_impl_kindIndex_1_L2 v91.snd s0 x7 (IntKind.wrap IntKind.i64 (x8 + 1)) else some (I (-1), [(Id.l 0, bl [S ml_0f0])])
theorem e_slices_IndexFunc_Kind_of_impl_kindIndex_1_L2 (ml_0f0 : ByteArray) (s0 : List DKind) (x7 : Int) (x8 : Int) : OLe (P_slices_IndexFunc_Kind_of_impl_kindIndex_1_L2 ml_0f0 s0 x7 x8) (L_slices_IndexFunc_Kind_of_impl_kindIndex_1_L2 ml_0f0 s0 x7 x8) := fun _ h => by
  unfold L_slices_IndexFunc_Kind_of_impl_kindIndex_1_L2
  exact lpK_le (Eq.trans (by kernel_rfl) h)
noncomputable def P_impl_kindIndex_1 (ml_0f0 : ByteArray) (k0 : DKind) : Option R :=
  some (B (ByteArray.toList k0.Name == ByteArray.toList ml_0f0), [(Id.l 0, bl [S ml_0f0])])
theorem e_impl_kindIndex_1 (ml_0f0 : ByteArray) (k0 : DKind) : OLe (P_impl_kindIndex_1 ml_0f0 k0) (A_impl_kindIndex_1 ml_0f0 k0) := fun _ h => by
  unfold A_impl_kindIndex_1
  exact funK_le (T := T) Tryz.func121 (Eq.trans (by kernel_rfl) h)
noncomputable def P_spec_jFar (m0 : DMap) (open1 : List Bool) (sources2 : List Int) : Option R :=
  mkA G false cI 1 [(Id.v 3, bx (cMap m0))] 17 27 (I (↑(List.length open1) : Int)) (I (↑(List.length open1) : Int)) fun (v108 : List Int) => L_spec_jFar_L3 v108 m0 open1 sources2 0 (List.length v108) (List.length v108) (↑(List.length v108) : Int) 0
theorem e_spec_jFar (m0 : DMap) (open1 : List Bool) (sources2 : List Int) : OLe (P_spec_jFar m0 open1 sources2) (A_spec_jFar m0 open1 sources2) := fun _ h => by
  unfold A_spec_jFar
  exact funK_le (T := T) Tryz.func24 (Eq.trans (by kernel_rfl) h)
noncomputable def P_spec_jFar_L3 (mh_7_0 : List Int) (mh_3_0 : DMap) (open1 : List Bool) (sources2 : List Int) (out7o : Nat) (out7n : Nat) (out7k : Nat) (x19 : Int) (x20 : Int) : Option R :=
  if decide (x20 < x19) = true then oxA Tryz.prog 27 (Id.h 7 0) none 1 (AV.own (Id.h 7 0) none out7o out7n out7k) (I x20) fun (v109 : Nat) => stA G cI [(Id.h 3 0, bx (cMap mh_3_0)), (Id.h 7 0, some (rowB true false 1 cI mh_7_0))] (Id.h 7 0) (rowB true false 1 cI mh_7_0) 3 (AV.ptr (Id.h 7 0) none (v109 * 1)) (I (-1)) fun (v110 : List Int) => L_spec_jFar_L3 v110 mh_3_0 open1 sources2 out7o out7n out7k x19 (IntKind.wrap IntKind.i64 (x20 + 1)) else L_spec_jFar_L9 mh_7_0 [] mh_3_0 open1 out7o out7n out7k sources2 (↑(List.length sources2) : Int) 0
theorem e_spec_jFar_L3 (mh_7_0 : List Int) (mh_3_0 : DMap) (open1 : List Bool) (sources2 : List Int) (out7o : Nat) (out7n : Nat) (out7k : Nat) (x19 : Int) (x20 : Int) : OLe (P_spec_jFar_L3 mh_7_0 mh_3_0 open1 sources2 out7o out7n out7k x19 x20) (L_spec_jFar_L3 mh_7_0 mh_3_0 open1 sources2 out7o out7n out7k x19 x20) := fun _ h => by
  unfold L_spec_jFar_L3
  exact lpK_le (Eq.trans (by kernel_rfl) h)
noncomputable def P_spec_jFar_L9 (mh_7_0 : List Int) (mh_9_0 : List Int) (mh_3_0 : DMap) (open1 : List Bool) (out7o : Nat) (out7n : Nat) (out7k : Nat) (x27 : List Int) (x28 : Int) (x29 : Int) : Option R :=
  if decide (x29 < x28) = true then ixA Tryz.prog 27 cI (slc cI x27) (I x29) fun (v111 : Int) => ixA Tryz.prog 54 cB (slc cB open1) (I v111) fun (v112 : Bool) => if v112 = true then oxA Tryz.prog 27 (Id.h 7 0) none 1 (AV.own (Id.h 7 0) none out7o out7n out7k) (I v111) fun (v113 : Nat) => stA G cI [(Id.h 3 0, bx (cMap mh_3_0)), (Id.h 7 0, some (rowB true false 1 cI mh_7_0)), (Id.h 9 0, some (rowB true false 1 cI mh_9_0))] (Id.h 7 0) (rowB true false 1 cI mh_7_0) 3 (AV.ptr (Id.h 7 0) none (v113 * 1)) (I 0) fun (v114 : List Int) => apR G cI true false 1 [(Id.h 3 0, bx (cMap mh_3_0)), (Id.h 7 0, some (rowB true false 1 cI v114)), (Id.h 9 0, some (rowB true false 1 cI mh_9_0)), (Id.v 42, some { arr := true, fr := true, nest := false, esz := 1, cells := [I v111] })] 43 (Id.h 9 0) 27 (AV.own (Id.h 9 0) none 0 (List.length mh_9_0) (List.length mh_9_0)) (AV.own (Id.v 42) none 0 1 1) fun (v115 : List Int) => L_spec_jFar_L9 v114 v115 mh_3_0 open1 out7o out7n out7k x27 x28 (IntKind.wrap IntKind.i64 (x29 + 1)) else L_spec_jFar_L9 mh_7_0 mh_9_0 mh_3_0 open1 out7o out7n out7k x27 x28 (IntKind.wrap IntKind.i64 (x29 + 1)) else L_spec_jFar_L16 mh_7_0 mh_9_0 mh_3_0 open1 out7o out7n out7k 0
theorem e_spec_jFar_L9 (mh_7_0 : List Int) (mh_9_0 : List Int) (mh_3_0 : DMap) (open1 : List Bool) (out7o : Nat) (out7n : Nat) (out7k : Nat) (x27 : List Int) (x28 : Int) (x29 : Int) : OLe (P_spec_jFar_L9 mh_7_0 mh_9_0 mh_3_0 open1 out7o out7n out7k x27 x28 x29) (L_spec_jFar_L9 mh_7_0 mh_9_0 mh_3_0 open1 out7o out7n out7k x27 x28 x29) := fun _ h => by
  unfold L_spec_jFar_L9
  exact lpK_le (Eq.trans (by kernel_rfl) h)
noncomputable def P_spec_jFar_L16 (mh_7_0 : List Int) (mh_9_0 : List Int) (mh_3_0 : DMap) (open1 : List Bool) (out7o : Nat) (out7n : Nat) (out7k : Nat) (at12 : Int) : Option R :=
  if decide (at12 < (↑(List.length mh_9_0) : Int)) = true then L_spec_jFar_L19 mh_7_0 mh_9_0 mh_3_0 open1 out7o out7n out7k at12 0 else cast (fun (a : List Int) => slc cI a) (giveUpT [(Id.h 3 0, bx (cMap mh_3_0)), (Id.h 7 0, some (rowB true false 1 cI mh_7_0)), (Id.h 9 0, some (rowB true false 1 cI mh_9_0))] (AV.own (Id.h 7 0) none out7o out7n out7k)) fun (v116 : List Int) => some (slc cI v116, [])
theorem e_spec_jFar_L16 (mh_7_0 : List Int) (mh_9_0 : List Int) (mh_3_0 : DMap) (open1 : List Bool) (out7o : Nat) (out7n : Nat) (out7k : Nat) (at12 : Int) : OLe (P_spec_jFar_L16 mh_7_0 mh_9_0 mh_3_0 open1 out7o out7n out7k at12) (L_spec_jFar_L16 mh_7_0 mh_9_0 mh_3_0 open1 out7o out7n out7k at12) := fun _ h => by
  unfold L_spec_jFar_L16
  exact lpK_le (Eq.trans (by kernel_rfl) h)
noncomputable def P_spec_jFar_L19 (mh_7_0 : List Int) (mh_9_0 : List Int) (mh_3_0 : DMap) (open1 : List Bool) (out7o : Nat) (out7n : Nat) (out7k : Nat) (at12 : Int) (d13 : Int) : Option R :=
  if decide (d13 < 6) = true then oxA Tryz.prog 27 (Id.h 9 0) none 1 (AV.own (Id.h 9 0) none 0 (List.length mh_9_0) (List.length mh_9_0)) (I at12) fun (v117 : Nat) => cast (fun (a : Int) => I a) (loadA G [(Id.h 3 0, bx (cMap mh_3_0)), (Id.h 7 0, some (rowB true false 1 cI mh_7_0)), (Id.h 9 0, some (rowB true false 1 cI mh_9_0))] 3 (AV.ptr (Id.h 9 0) none (v117 * 1))) fun (v118 : Int) => cl_spec_mNext mh_3_0 v118 d13 fun (v119 : Int) => if decide (0 ≤ v119) = true then ixA Tryz.prog 54 cB (slc cB open1) (I v119) fun (v120 : Bool) => if v120 = true then oxA Tryz.prog 27 (Id.h 7 0) none 1 (AV.own (Id.h 7 0) none out7o out7n out7k) (I v119) fun (v121 : Nat) => cast (fun (a : Int) => I a) (loadA G [(Id.h 3 0, bx (cMap mh_3_0)), (Id.h 7 0, some (rowB true false 1 cI mh_7_0)), (Id.h 9 0, some (rowB true false 1 cI mh_9_0))] 3 (AV.ptr (Id.h 7 0) none (v121 * 1))) fun (v122 : Int) => if decide (v122 < 0) = true then oxA Tryz.prog 27 (Id.h 9 0) none 1 (AV.own (Id.h 9 0) none 0 (List.length mh_9_0) (List.length mh_9_0)) (I at12) fun (v123 : Nat) => cast (fun (a : Int) => I a) (loadA G [(Id.h 3 0, bx (cMap mh_3_0)), (Id.h 7 0, some (rowB true false 1 cI mh_7_0)), (Id.h 9 0, some (rowB true false 1 cI mh_9_0))] 3 (AV.ptr (Id.h 9 0) none (v123 * 1))) fun (v124 : Int) => oxA Tryz.prog 27 (Id.h 7 0) none 1 (AV.own (Id.h 7 0) none out7o out7n out7k) (I v124) fun (v125 : Nat) => cast (fun (a : Int) => I a) (loadA G [(Id.h 3 0, bx (cMap mh_3_0)), (Id.h 7 0, some (rowB true false 1 cI mh_7_0)), (Id.h 9 0, some (rowB true false 1 cI mh_9_0))] 3 (AV.ptr (Id.h 7 0) none (v125 * 1))) fun (v126 : Int) => oxA Tryz.prog 27 (Id.h 7 0) none 1 (AV.own (Id.h 7 0) none out7o out7n out7k) (I v119) fun (v127 : Nat) => stA G cI [(Id.h 3 0, bx (cMap mh_3_0)), (Id.h 7 0, some (rowB true false 1 cI mh_7_0)), (Id.h 9 0, some (rowB true false 1 cI mh_9_0))] (Id.h 7 0) (rowB true false 1 cI mh_7_0) 3 (AV.ptr (Id.h 7 0) none (v127 * 1)) (I (IntKind.wrap IntKind.i64 (v126 + 1))) fun (v128 : List Int) => apR G cI true false 1 [(Id.h 3 0, bx (cMap mh_3_0)), (Id.h 7 0, some (rowB true false 1 cI v128)), (Id.h 9 0, some (rowB true false 1 cI mh_9_0)), (Id.v 90, some { arr := true, fr := true, nest := false, esz := 1, cells := [I v119] })] 91 (Id.h 9 0) 27 (AV.own (Id.h 9 0) none 0 (List.length mh_9_0) (List.length mh_9_0)) (AV.own (Id.v 90) none 0 1 1) fun (v129 : List Int) => L_spec_jFar_L19 v128 v129 mh_3_0 open1 out7o out7n out7k at12 (IntKind.wrap IntKind.i64 (d13 + 1)) else L_spec_jFar_L19 mh_7_0 mh_9_0 mh_3_0 open1 out7o out7n out7k at12 (IntKind.wrap IntKind.i64 (d13 + 1)) else L_spec_jFar_L19 mh_7_0 mh_9_0 mh_3_0 open1 out7o out7n out7k at12 (IntKind.wrap IntKind.i64 (d13 + 1)) else L_spec_jFar_L19 mh_7_0 mh_9_0 mh_3_0 open1 out7o out7n out7k at12 (IntKind.wrap IntKind.i64 (d13 + 1)) else L_spec_jFar_L16 mh_7_0 mh_9_0 mh_3_0 open1 out7o out7n out7k (IntKind.wrap IntKind.i64 (at12 + 1))
theorem e_spec_jFar_L19 (mh_7_0 : List Int) (mh_9_0 : List Int) (mh_3_0 : DMap) (open1 : List Bool) (out7o : Nat) (out7n : Nat) (out7k : Nat) (at12 : Int) (d13 : Int) : OLe (P_spec_jFar_L19 mh_7_0 mh_9_0 mh_3_0 open1 out7o out7n out7k at12 d13) (L_spec_jFar_L19 mh_7_0 mh_9_0 mh_3_0 open1 out7o out7n out7k at12 d13) := fun _ h => by
  unfold L_spec_jFar_L19
  exact lpK_le (Eq.trans (by kernel_rfl) h)
end Go.Ev
