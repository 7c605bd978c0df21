/-
  P1: one of the texts behind a proof of laws.FnSupply: how each function that is reached is called; what its result is
  Its conditions: none of its own.
-/
import Derived.Test.YtpaoafaegpldoaaGreatDoorEd
set_option maxRecDepth 100000
set_option linter.unusedVariables false
set_option linter.unusedSectionVars false
set_option linter.unusedSimpArgs false
set_option linter.unnecessarySimpa false
namespace Go.Ev
open Go Go.Proofs
variable [Inhabited Known]
noncomputable def L_laws_FnSupply_L23 (mh_6_0 : DState) (u7 : Int) (path9 : List Int) (cut28 : List Int) (x176 : List Int) (x177 : Int) (x178 : Int) : Option R := lpK G T 3 Tryz.f3 [1, 1, 1, 1, 1, 1, 1, 1, 1, 1, 1, 1, 1, 1, 1, 0, 1, 0] (js 6 ((AV.ptr (Id.h 6 0) none 0) :: (I u7) :: js 1 ((slc cI path9) :: js 18 ((slc cI cut28) :: js 147 ((slc cI x176) :: (I x177) :: (I x178) :: js 16 []))))) [(Id.h 6 0, some ⟨false, true, false, 0, cState mh_6_0⟩)]
noncomputable def L_spec_zSources_L3 (mh_9_0 : List Int) (mh_4_0 : DBoard) (mh_5_0 : DState) (side2 : Int) (i3 : Int) (x13 : List DUnit) (x14 : Int) (x15 : Int) : Option R := lpK G T 103 Tryz.f103 [1, 1, 0, 1, 0] (js 2 ((I side2) :: (I i3) :: (AV.ptr (Id.h 4 0) none 0) :: (AV.ptr (Id.h 5 0) none 0) :: js 3 ((.own (Id.h 9 0) none 0 mh_9_0.length mh_9_0.length) :: js 3 ((slc cUnit x13) :: (I x14) :: (I x15) :: js 21 [])))) [(Id.h 4 0, some ⟨false, true, false, 0, cBoard mh_4_0⟩), (Id.h 5 0, some ⟨false, true, false, 0, cState mh_5_0⟩), (Id.h 9 0, some (rowB true false 1 cI mh_9_0))]
noncomputable def L_spec_l1Rising_L2 (l0 : List Int) (lo1 : Int) (hi2 : Int) (x9 : List Int) (x10 : Int) (x11 : Int) : Option R := lpK G T 74 Tryz.f74 [1, 0, 1, 0] ((slc cI l0) :: (I lo1) :: (I hi2) :: js 6 ((slc cI x9) :: (I x10) :: (I x11) :: js 23 [])) []
noncomputable def L_spec_l1Has_L2 (n1 : Int) (x7 : List Int) (x8 : Int) (x9 : Int) : Option R := lpK G T 38 Tryz.f38 [1, 0, 1, 0] (js 1 ((I n1) :: js 5 ((slc cI x7) :: (I x8) :: (I x9) :: js 7 []))) []
noncomputable def L_impl_goodState_L5 (mh_5_0 : List A2I) (mh_2_0 : DBoard) (there5o : Nat) (there5n : Nat) (there5k : Nat) (x31 : List DUnit) (x32 : Int) (x33 : Int) : Option R := lpK G T 85 Tryz.f85 [1, 1, 1, 0, 1, 0] (js 2 ((AV.ptr (Id.h 2 0) none 0) :: js 2 ((.own (Id.h 5 0) none there5o there5n there5k) :: js 25 ((slc cUnit x31) :: (I x32) :: (I x33) :: js 46 [])))) [(Id.h 2 0, some ⟨false, true, false, 0, cBoard mh_2_0⟩), (Id.h 5 0, some (rowB true false 2 cA2I mh_5_0))]
noncomputable def L_spec_rGood_L4 (mh_1_0 : DRules) (x20 : List DTerrain) (x21 : Int) (x22 : Int) : Option R := lpK G T 96 Tryz.f96 [1, 1, 0, 1, 0] (js 1 ((AV.ptr (Id.h 1 0) none 0) :: js 18 ((slc cTerrain x20) :: (I x21) :: (I x22) :: js 114 []))) [(Id.h 1 0, some ⟨false, true, false, 0, cRules mh_1_0⟩)]
noncomputable def L_spec_sGood_L4 (mh_2_0 : DBoard) (mh_3_0 : DState) (x34 : List DUnit) (x35 : Int) (x36 : Int) : Option R := lpK G T 73 Tryz.f73 [1, 1, 0, 1, 0] (js 2 ((AV.ptr (Id.h 2 0) none 0) :: (AV.ptr (Id.h 3 0) none 0) :: js 30 ((slc cUnit x34) :: (I x35) :: (I x36) :: js 43 []))) [(Id.h 2 0, some ⟨false, true, false, 0, cBoard mh_2_0⟩), (Id.h 3 0, some ⟨false, true, false, 0, cState mh_3_0⟩)]
noncomputable def L_laws_qInts_L4 (a0 : List Int) (b1 : List Int) (x12 : Int) (x13 : Int) : Option R := lpK G T 10 Tryz.f10 [1, 1, 0, 1, 0] ((slc cI a0) :: (slc cI b1) :: js 10 ((I x12) :: (I x13) :: js 12 [])) []
noncomputable def L_impl_neighboursOn_L3 (mh_5_0 : List Int) (mh_2_0 : DMap) (i1 : Int) (x9 : Int) : Option R := lpK G T 20 Tryz.f20 [1, 1, 0, 1, 0] (js 1 ((I i1) :: (AV.ptr (Id.h 2 0) none 0) :: js 2 ((.own (Id.h 5 0) none 0 mh_5_0.length mh_5_0.length) :: js 3 ((I x9) :: js 14 [])))) [(Id.h 2 0, some ⟨false, true, false, 0, cMap mh_2_0⟩), (Id.h 5 0, some (rowB true false 1 cI mh_5_0))]
noncomputable def L_impl_ownerOf_L2 (i1 : Int) (x8 : List DUnit) (x9 : Int) (x10 : Int) : Option R := lpK G T 69 Tryz.f69 [1, 0, 1, 0] (js 1 ((I i1) :: js 6 ((slc cUnit x8) :: (I x9) :: (I x10) :: js 10 []))) []
noncomputable def L_spec_rGood_L10 (mh_1_0 : DRules) (x69 : List DKind) (x70 : Int) (x71 : Int) : Option R := lpK G T 96 Tryz.f96 [1, 1, 1, 0, 1, 0] (js 1 ((AV.ptr (Id.h 1 0) none 0) :: js 67 ((slc cKind x69) :: (I x70) :: (I x71) :: js 65 []))) [(Id.h 1 0, some ⟨false, true, false, 0, cRules mh_1_0⟩)]
noncomputable def L_spec_sGood_L10 (mh_2_0 : DBoard) (mh_3_0 : DState) (x46 : List DUnit) (x47 : Int) (x48 : Int) : Option R := lpK G T 73 Tryz.f73 [1, 1, 1, 0, 1, 0] (js 2 ((AV.ptr (Id.h 2 0) none 0) :: (AV.ptr (Id.h 3 0) none 0) :: js 42 ((slc cUnit x46) :: (I x47) :: (I x48) :: js 31 []))) [(Id.h 2 0, some ⟨false, true, false, 0, cBoard mh_2_0⟩), (Id.h 3 0, some ⟨false, true, false, 0, cState mh_3_0⟩)]
noncomputable def L_spec_l1Cur_edges_L3 (mh_5_0 : List Int) (ml_0 : Dl1Cur) (mh_3_0 : DMap) (l5o : Nat) (l5n : Nat) (l5k : Nat) (k6 : Int) : Option R := lpK G T 104 Tryz.f104 [1, 1, 0, 1, 0] ((AV.ptr (Id.l 0) none 0) :: js 2 ((AV.ptr (Id.h 3 0) none 0) :: js 1 ((.own (Id.h 5 0) none l5o l5n l5k) :: (I k6) :: js 26 []))) [(Id.l 0, bl (cl1Cur ml_0)), (Id.h 3 0, some ⟨false, true, false, 0, cMap mh_3_0⟩), (Id.h 5 0, some (rowB true false 1 cI mh_5_0))]
noncomputable def L_spec_l1Put_L2 (ml_0 : List Int) (l0o : Nat) (l0n : Nat) (l0k : Nat) (n1 : Int) (k5 : Int) : Option R := lpK G T 57 Tryz.f57 [1, 1, 0, 0] ((.own (Id.l 0) none l0o l0n l0k) :: (I n1) :: js 3 ((I k5) :: js 42 [])) [(Id.l 0, some (rowB false false 1 cI ml_0))]
noncomputable def L_slices_IndexFunc_int_of_impl_IsBoard_1_L2 (ml_0 : DBoard) (s0 : List Int) (x7 : Int) (x8 : Int) : Option R := lpK G T 86 Tryz.f86 [1, 0, 1, 0] ((slc cI s0) :: (.clo 99 [(AV.ptr (Id.l 0) none 0)]) :: js 5 ((I x7) :: (I x8) :: js 10 [])) [(Id.l 0, bl (cBoard ml_0))]
noncomputable def L_slices_Index_int_L2 (s0 : List Int) (v1 : Int) (x7 : Int) (x8 : Int) : Option R := lpK G T 61 Tryz.f61 [1, 0, 1, 0] ((slc cI s0) :: (I v1) :: js 5 ((I x7) :: (I x8) :: js 10 [])) []
noncomputable def L_impl_SupplyPath_L7 (mh_4_0 : DBoard) (mh_10_0 : DUnit) (left11 : List Int) (at12 : Int) (x55 : List Int) (x56 : Int) (x57 : Int) : Option R := lpK G T 5 Tryz.f5 [1, 1, 1, 1, 1, 0, 1, 0] (js 4 ((AV.ptr (Id.h 4 0) none 0) :: js 5 ((AV.ptr (Id.h 10 0) none 0) :: (slc cI left11) :: (I at12) :: js 42 ((slc cI x55) :: (I x56) :: (I x57) :: js 67 [])))) [(Id.h 4 0, some ⟨false, true, false, 0, cBoard mh_4_0⟩), (Id.h 10 0, some ⟨false, true, false, 0, cUnit mh_10_0⟩)]
noncomputable def L_spec_mEdges_L2 (mh_2_0 : DMap) (l1 : List Int) (x7 : List Int) (x8 : Int) (x9 : Int) : Option R := lpK G T 82 Tryz.f82 [1, 0, 1, 0] (js 1 ((slc cI l1) :: (AV.ptr (Id.h 2 0) none 0) :: js 4 ((slc cI x7) :: (I x8) :: (I x9) :: js 26 []))) [(Id.h 2 0, some ⟨false, true, false, 0, cMap mh_2_0⟩)]
noncomputable def L_spec_sOwner_L2 (i1 : Int) (x8 : List DUnit) (x9 : Int) (x10 : Int) : Option R := lpK G T 91 Tryz.f91 [1, 0, 1, 0] (js 1 ((I i1) :: js 6 ((slc cUnit x8) :: (I x9) :: (I x10) :: js 10 []))) []
noncomputable def L_impl_SupplyPath_L13 (mh_15_0 : List Int) (mh_4_0 : DBoard) (mh_10_0 : DUnit) (left11 : List Int) (at12 : Int) : Option R := lpK G T 5 Tryz.f5 [1, 1, 1, 1, 1, 1, 1, 0, 0] (js 4 ((AV.ptr (Id.h 4 0) none 0) :: js 5 ((AV.ptr (Id.h 10 0) none 0) :: (slc cI left11) :: (I at12) :: js 2 ((.own (Id.h 15 0) none 0 mh_15_0.length mh_15_0.length) :: js 109 [])))) [(Id.h 4 0, some ⟨false, true, false, 0, cBoard mh_4_0⟩), (Id.h 10 0, some ⟨false, true, false, 0, cUnit mh_10_0⟩), (Id.h 15 0, some (rowB true false 1 cI mh_15_0))]
noncomputable def L_spec_l1Cur_state_L3 (mh_5_1 : List DUnit) (ml_0 : Dl1Cur) (mh_3_0 : DBoard) (mh_4_0f0 : Int) (mh_4_0f1 : Int) (mh_5_0f0 : Int) (mh_5_0f1 : Int) (mh_5_0f2o : Nat) (mh_5_0f2n : Nat) (mh_5_0f2k : Nat) (k6 : Int) : Option R := lpK G T 81 Tryz.f81 [1, 1, 0, 1, 0] ((AV.ptr (Id.l 0) none 0) :: js 2 ((AV.ptr (Id.h 3 0) none 0) :: (AV.ptr (Id.h 4 0) none 0) :: (AV.ptr (Id.h 5 0) none 0) :: (I k6) :: js 66 [])) [(Id.l 0, bl (cl1Cur ml_0)), (Id.h 3 0, some ⟨false, true, false, 0, cBoard mh_3_0⟩), (Id.h 4 0, some ⟨false, true, false, 0, [(I mh_4_0f0), (I mh_4_0f1), .emp]⟩), (Id.h 5 0, some ⟨false, true, false, 0, [(I mh_5_0f0), (I mh_5_0f1), (.own (Id.h 5 1) none mh_5_0f2o mh_5_0f2n mh_5_0f2k)]⟩), (Id.h 5 1, some (rowB true false 4 cUnit mh_5_1))]
noncomputable def L_impl_SupplyPath_L16 (mh_15_0 : List Int) (mh_4_0 : DBoard) (mh_10_0 : DUnit) (left11 : List Int) (at12 : Int) (next16 : Int) (x92 : List Int) (x93 : Int) (x94 : Int) : Option R := lpK G T 5 Tryz.f5 [1, 1, 1, 1, 1, 1, 1, 0, 0, 0, 1, 0, 1, 0, 1, 0] (js 4 ((AV.ptr (Id.h 4 0) none 0) :: js 5 ((AV.ptr (Id.h 10 0) none 0) :: (slc cI left11) :: (I at12) :: js 2 ((.own (Id.h 15 0) none 0 mh_15_0.length mh_15_0.length) :: (I next16) :: js 75 ((slc cI x92) :: (I x93) :: (I x94) :: js 30 []))))) [(Id.h 4 0, some ⟨false, true, false, 0, cBoard mh_4_0⟩), (Id.h 10 0, some ⟨false, true, false, 0, cUnit mh_10_0⟩), (Id.h 15 0, some (rowB true false 1 cI mh_15_0))]
noncomputable def L_impl_hexesThat_of_impl_CutHexes_1_L3 (ml_4 : List Bool) (mh_5_0 : List Int) (ml_0f0o : Nat) (ml_0f0n : Nat) (ml_0f0k : Nat) (ml_1 : DBoard) (ml_2 : DUnit) (ml_3f0 : List Int) (x11 : Int) (x12 : Int) : Option R := lpK G T 39 Tryz.f39 [1, 1, 0, 1, 0] (js 1 ((.clo 40 [(AV.ptr (Id.l 0) none 0), (AV.ptr (Id.l 1) none 0), (AV.ptr (Id.l 2) none 0), (AV.ptr (Id.l 3) none 0)]) :: js 3 ((.own (Id.h 5 0) none 0 mh_5_0.length mh_5_0.length) :: js 5 ((I x11) :: (I x12) :: js 11 [])))) [(Id.l 0, some ⟨false, false, false, 0, [(.own (Id.l 4) none ml_0f0o ml_0f0n ml_0f0k)]⟩), (Id.l 1, bl (cBoard ml_1)), (Id.l 2, bl (cUnit ml_2)), (Id.l 3, some ⟨false, false, false, 0, [(slc cI ml_3f0)]⟩), (Id.l 4, some (rowB false false 1 cB ml_4)), (Id.h 5 0, some (rowB true false 1 cI mh_5_0))]
noncomputable def L_slices_IndexFunc_int_of_impl_areSources_1_L2 (ml_0 : DBoard) (s0 : List Int) (x7 : Int) (x8 : Int) : Option R := lpK G T 86 Tryz.f86 [1, 0, 1, 0] ((slc cI s0) :: (.clo 67 [(AV.ptr (Id.l 0) none 0)]) :: js 5 ((I x7) :: (I x8) :: js 10 [])) [(Id.l 0, bl (cBoard ml_0))]
noncomputable def L_spec_CheckSupplyPath_L8 (mh_5_0 : DBoard) (path4 : List Int) (open13 : List Bool) (x82 : List Int) (x83 : Int) (x84 : Int) : Option R := lpK G T 9 Tryz.f9 [1, 1, 1, 1, 1, 0, 1, 0] (js 4 ((slc cI path4) :: (AV.ptr (Id.h 5 0) none 0) :: js 7 ((slc cB open13) :: js 68 ((slc cI x82) :: (I x83) :: (I x84) :: js 38 [])))) [(Id.h 5 0, some ⟨false, true, false, 0, cBoard mh_5_0⟩)]
noncomputable def L_impl_IsRules_L4 (mh_1_0 : DRules) (x20 : List DTerrain) (x21 : Int) (x22 : Int) : Option R := lpK G T 97 Tryz.f97 [1, 1, 0, 1, 0] (js 1 ((AV.ptr (Id.h 1 0) none 0) :: js 18 ((slc cTerrain x20) :: (I x21) :: (I x22) :: js 64 []))) [(Id.h 1 0, some ⟨false, true, false, 0, cRules mh_1_0⟩)]
noncomputable def L_spec_zExerts_L5 (mh_4_0 : DBoard) (mh_9_0 : DUnit) (i3 : Int) (d10 : Int) : Option R := lpK G T 114 Tryz.f114 [1, 1, 1, 0, 1, 0] (js 3 ((I i3) :: (AV.ptr (Id.h 4 0) none 0) :: js 4 ((AV.ptr (Id.h 9 0) none 0) :: (I d10) :: js 54 []))) [(Id.h 4 0, some ⟨false, true, false, 0, cBoard mh_4_0⟩), (Id.h 9 0, some ⟨false, true, false, 0, cUnit mh_9_0⟩)]
noncomputable def L_spec_rName_L2 (s0 : ByteArray) (i3 : Int) : Option R := lpK G T 105 Tryz.f105 [1, 0, 1, 0] ((S s0) :: js 2 ((I i3) :: js 19 [])) []
noncomputable def L_spec_rKind_L2 (name1 : ByteArray) (x7 : List DKind) (x8 : Int) (x9 : Int) : Option R := lpK G T 107 Tryz.f107 [1, 0, 1, 0] (js 1 ((S name1) :: js 5 ((slc cKind x7) :: (I x8) :: (I x9) :: js 10 []))) []
noncomputable def L_spec_CheckSupplyPath_L12 (mh_5_0 : DBoard) (path4 : List Int) (open13 : List Bool) (k15 : Int) (i16 : Int) (near17 : Bool) (d18 : Int) (x82 : List Int) (x83 : Int) (x84 : Int) : Option R := lpK G T 9 Tryz.f9 [1, 1, 1, 1, 1, 0, 1, 0, 0, 1, 1, 0, 0, 1, 1, 0, 1, 0] (js 4 ((slc cI path4) :: (AV.ptr (Id.h 5 0) none 0) :: js 7 ((slc cB open13) :: js 1 ((I k15) :: (I i16) :: (B near17) :: (I d18) :: js 63 ((slc cI x82) :: (I x83) :: (I x84) :: js 38 []))))) [(Id.h 5 0, some ⟨false, true, false, 0, cBoard mh_5_0⟩)]
noncomputable def L_impl_IsRules_L10 (mh_1_0 : DRules) (x44 : List DKind) (x45 : Int) (x46 : Int) : Option R := lpK G T 97 Tryz.f97 [1, 1, 1, 0, 1, 0] (js 1 ((AV.ptr (Id.h 1 0) none 0) :: js 42 ((slc cKind x44) :: (I x45) :: (I x46) :: js 40 []))) [(Id.h 1 0, some ⟨false, true, false, 0, cRules mh_1_0⟩)]
noncomputable def L_slices_IndexFunc_Terrain_of_impl_terrainIndex_1_L2 (ml_0f0 : ByteArray) (s0 : List DTerrain) (x7 : Int) (x8 : Int) : Option R := lpK G T 118 Tryz.f118 [1, 0, 1, 0] ((slc cTerrain s0) :: (.clo 119 [(AV.ptr (Id.l 0) none 0)]) :: js 5 ((I x7) :: (I x8) :: js 10 [])) [(Id.l 0, some ⟨false, false, false, 0, [(S ml_0f0)]⟩)]
noncomputable def L_spec_SupplyPath_L9 (mh_15_0 : List Int) (mh_4_0 : DBoard) (open10 : List Bool) (far11 : List Int) (n13 : Int) (back14 : List Int) (step16 : Int) : Option R := lpK G T 6 Tryz.f6 [1, 1, 1, 1, 1, 1, 1, 0, 1, 0] (js 4 ((AV.ptr (Id.h 4 0) none 0) :: js 5 ((slc cB open10) :: (slc cI far11) :: js 1 ((I n13) :: (slc cI back14) :: (.own (Id.h 15 0) none 0 mh_15_0.length mh_15_0.length) :: (I step16) :: js 104 [])))) [(Id.h 4 0, some ⟨false, true, false, 0, cBoard mh_4_0⟩), (Id.h 15 0, some (rowB true false 1 cI mh_15_0))]
noncomputable def L_spec_sAt_L3 (mh_7_0 : List Int) (i1 : Int) (side2 : Int) (x11 : List DUnit) (x12 : Int) (x13 : Int) : Option R := lpK G T 89 Tryz.f89 [1, 1, 0, 1, 0] (js 1 ((I i1) :: (I side2) :: js 4 ((.own (Id.h 7 0) none 0 mh_7_0.length mh_7_0.length) :: js 3 ((slc cUnit x11) :: (I x12) :: (I x13) :: js 20 [])))) [(Id.h 7 0, some (rowB true false 1 cI mh_7_0))]
noncomputable def L_impl_isName_L2 (s0 : ByteArray) (i3 : Int) : Option R := lpK G T 116 Tryz.f116 [1, 0, 1, 0] ((S s0) :: js 2 ((I i3) :: js 19 [])) []
noncomputable def L_spec_SupplyPath_L13 (mh_15_0 : List Int) (mh_4_0 : DBoard) (open10 : List Bool) (far11 : List Int) (n13 : Int) (back14 : List Int) (step16 : Int) (best17 : Int) (x65 : Int) (x66 : Int) : Option R := lpK G T 6 Tryz.f6 [1, 1, 1, 1, 1, 1, 1, 0, 1, 0, 0, 1, 0, 0, 1, 0, 1, 0] (js 4 ((AV.ptr (Id.h 4 0) none 0) :: js 5 ((slc cB open10) :: (slc cI far11) :: js 1 ((I n13) :: (slc cI back14) :: (.own (Id.h 15 0) none 0 mh_15_0.length mh_15_0.length) :: (I step16) :: (I best17) :: js 47 ((I x65) :: (I x66) :: js 54 []))))) [(Id.h 4 0, some ⟨false, true, false, 0, cBoard mh_4_0⟩), (Id.h 15 0, some (rowB true false 1 cI mh_15_0))]
noncomputable def L_spec_l1Cur_sources_L3 (mh_7_0 : List Int) (ml_0 : Dl1Cur) (mh_4_0 : DBoard) (mh_5_0 : DState) (out7o : Nat) (out7n : Nat) (out7k : Nat) (k8 : Int) : Option R := lpK G T 28 Tryz.f28 [1, 1, 0, 1, 0] ((AV.ptr (Id.l 0) none 0) :: js 3 ((AV.ptr (Id.h 4 0) none 0) :: (AV.ptr (Id.h 5 0) none 0) :: js 1 ((.own (Id.h 7 0) none out7o out7n out7k) :: (I k8) :: js 61 []))) [(Id.l 0, bl (cl1Cur ml_0)), (Id.h 4 0, some ⟨false, true, false, 0, cBoard mh_4_0⟩), (Id.h 5 0, some ⟨false, true, false, 0, cState mh_5_0⟩), (Id.h 7 0, some (rowB true false 1 cI mh_7_0))]
noncomputable def L_spec_jOpen_L3 (mh_9_0 : List Bool) (mh_4_0 : DBoard) (mh_5_0 : DState) (side2 : Int) (kind3 : Int) (out9o : Nat) (out9n : Nat) (out9k : Nat) (x16 : Int) (x17 : Int) : Option R := lpK G T 50 Tryz.f50 [1, 1, 0, 1, 0] (js 2 ((I side2) :: (I kind3) :: (AV.ptr (Id.h 4 0) none 0) :: (AV.ptr (Id.h 5 0) none 0) :: js 3 ((.own (Id.h 9 0) none out9o out9n out9k) :: js 6 ((I x16) :: (I x17) :: js 20 [])))) [(Id.h 4 0, some ⟨false, true, false, 0, cBoard mh_4_0⟩), (Id.h 5 0, some ⟨false, true, false, 0, cState mh_5_0⟩), (Id.h 9 0, some (rowB true false 1 cB mh_9_0))]
noncomputable def L_spec_SupplyPath_L18 (mh_15_0 : List Int) (mh_4_0 : DBoard) (open10 : List Bool) (far11 : List Int) (n13 : Int) (back14 : List Int) (step16 : Int) (best17 : Int) (i18 : Int) (near19 : Bool) (d20 : Int) (x65 : Int) (x66 : Int) : Option R := lpK G T 6 Tryz.f6 [1, 1, 1, 1, 1, 1, 1, 0, 1, 0, 0, 1, 0, 0, 1, 0, 1, 0, 0, 1, 1, 0, 0, 1, 1, 1, 0, 1, 0] (js 4 ((AV.ptr (Id.h 4 0) none 0) :: js 5 ((slc cB open10) :: (slc cI far11) :: js 1 ((I n13) :: (slc cI back14) :: (.own (Id.h 15 0) none 0 mh_15_0.length mh_15_0.length) :: (I step16) :: (I best17) :: (I i18) :: (B near19) :: (I d20) :: js 44 ((I x65) :: (I x66) :: js 54 []))))) [(Id.h 4 0, some ⟨false, true, false, 0, cBoard mh_4_0⟩), (Id.h 15 0, some (rowB true false 1 cI mh_15_0))]
noncomputable def L_impl_spread_L3 (mh_7_0 : List Int) (mh_8_0 : List Int) (mh_3_0 : DMap) (open1 : List Bool) (from2 : List Int) (out7o : Nat) (out7n : Nat) (out7k : Nat) (x20 : Int) (x21 : Int) : Option R := lpK G T 18 Tryz.f18 [1, 1, 0, 1, 0] (js 1 ((slc cB open1) :: (slc cI from2) :: (AV.ptr (Id.h 3 0) none 0) :: js 3 ((.own (Id.h 7 0) none out7o out7n out7k) :: (.own (Id.h 8 0) none 0 mh_8_0.length mh_8_0.length) :: js 11 ((I x20) :: (I x21) :: js 69 [])))) [(Id.h 3 0, some ⟨false, true, false, 0, cMap mh_3_0⟩), (Id.h 7 0, some (rowB true false 1 cI mh_7_0)), (Id.h 8 0, some (rowB true false 1 cI mh_8_0))]
noncomputable def L_impl_spread_L8 (mh_7_0 : List Int) (mh_8_0 : List Int) (mh_3_0 : DMap) (open1 : List Bool) (out7o : Nat) (out7n : Nat) (out7k : Nat) (x28 : List Int) (x29 : Int) (x30 : Int) : Option R := lpK G T 18 Tryz.f18 [1, 1, 1, 0, 1, 0] (js 1 ((slc cB open1) :: js 1 ((AV.ptr (Id.h 3 0) none 0) :: js 3 ((.own (Id.h 7 0) none out7o out7n out7k) :: (.own (Id.h 8 0) none 0 mh_8_0.length mh_8_0.length) :: js 19 ((slc cI x28) :: (I x29) :: (I x30) :: js 60 []))))) [(Id.h 3 0, some ⟨false, true, false, 0, cMap mh_3_0⟩), (Id.h 7 0, some (rowB true false 1 cI mh_7_0)), (Id.h 8 0, some (rowB true false 1 cI mh_8_0))]
noncomputable def L_impl_spread_L15 (mh_7_0 : List Int) (mh_8_0 : List Int) (mh_3_0 : DMap) (open1 : List Bool) (out7o : Nat) (out7n : Nat) (out7k : Nat) (at12 : Int) : Option R := lpK G T 18 Tryz.f18 [1, 1, 1, 1, 0, 1, 0] (js 1 ((slc cB open1) :: js 1 ((AV.ptr (Id.h 3 0) none 0) :: js 3 ((.own (Id.h 7 0) none out7o out7n out7k) :: (.own (Id.h 8 0) none 0 mh_8_0.length mh_8_0.length) :: js 3 ((I at12) :: js 78 []))))) [(Id.h 3 0, some ⟨false, true, false, 0, cMap mh_3_0⟩), (Id.h 7 0, some (rowB true false 1 cI mh_7_0)), (Id.h 8 0, some (rowB true false 1 cI mh_8_0))]
noncomputable def L_impl_spread_L18 (mh_7_0 : List Int) (mh_8_0 : List Int) (mh_3_0 : DMap) (open1 : List Bool) (out7o : Nat) (out7n : Nat) (out7k : Nat) (at12 : Int) (x57 : List Int) (x58 : Int) (x59 : Int) : Option R := lpK G T 18 Tryz.f18 [1, 1, 1, 1, 0, 1, 0, 0, 1, 0, 0, 1, 0] (js 1 ((slc cB open1) :: js 1 ((AV.ptr (Id.h 3 0) none 0) :: js 3 ((.own (Id.h 7 0) none out7o out7n out7k) :: (.own (Id.h 8 0) none 0 mh_8_0.length mh_8_0.length) :: js 3 ((I at12) :: js 44 ((slc cI x57) :: (I x58) :: (I x59) :: js 31 [])))))) [(Id.h 3 0, some ⟨false, true, false, 0, cMap mh_3_0⟩), (Id.h 7 0, some (rowB true false 1 cI mh_7_0)), (Id.h 8 0, some (rowB true false 1 cI mh_8_0))]
noncomputable def L_spec_l1Cur_anyState_L17 (mh_5_1 : List DUnit) (ml_0 : Dl1Cur) (mh_4_0f0 : Int) (mh_4_0f1 : Int) (mh_5_0f0 : Int) (mh_5_0f1 : Int) : Option R := lpK G T 55 Tryz.f55 [1, 1, 1, 1, 0, 1, 0, 1, 1, 1, 1, 1, 1, 1, 1, 1, 1, 1, 0, 0] ((AV.ptr (Id.l 0) none 0) :: js 3 ((AV.ptr (Id.h 4 0) none 0) :: (AV.ptr (Id.h 5 0) none 0) :: js 85 [])) [(Id.l 0, bl (cl1Cur ml_0)), (Id.h 4 0, some ⟨false, true, false, 0, [(I mh_4_0f0), (I mh_4_0f1), .emp]⟩), (Id.h 5 0, some ⟨false, true, false, 0, [(I mh_5_0f0), (I mh_5_0f1), (.own (Id.h 5 1) none 0 mh_5_1.length mh_5_1.length)]⟩), (Id.h 5 1, some (rowB true false 4 cUnit mh_5_1))]
noncomputable def L_impl_IsMap_L4 (mh_1_0 : DMap) (x31 : List Int) (x32 : Int) (x33 : Int) : Option R := lpK G T 98 Tryz.f98 [1, 1, 0, 1, 0] (js 1 ((AV.ptr (Id.h 1 0) none 0) :: js 29 ((slc cI x31) :: (I x32) :: (I x33) :: js 32 []))) [(Id.h 1 0, some ⟨false, true, false, 0, cMap mh_1_0⟩)]
noncomputable def L_spec_l1Cur_mapOf_L3 (mh_5_1 : List Int) (ml_0 : Dl1Cur) (mh_4_0f0 : Int) (mh_4_0f1 : Int) (mh_5_0f0 : Int) (mh_5_0f1 : Int) (terrains1 : Int) (i6 : Int) : Option R := lpK G T 94 Tryz.f94 [1, 1, 0, 1, 0] ((AV.ptr (Id.l 0) none 0) :: (I terrains1) :: js 2 ((AV.ptr (Id.h 4 0) none 0) :: (AV.ptr (Id.h 5 0) none 0) :: (I i6) :: js 34 [])) [(Id.l 0, bl (cl1Cur ml_0)), (Id.h 4 0, some ⟨false, true, false, 0, [(I mh_4_0f0), (I mh_4_0f1), .emp, .emp, .emp]⟩), (Id.h 5 0, some ⟨false, true, false, 0, [(I mh_5_0f0), (I mh_5_0f1), (.own (Id.h 5 1) none 0 mh_5_1.length mh_5_1.length), .emp, .emp]⟩), (Id.h 5 1, some (rowB true false 1 cI mh_5_1))]
noncomputable def L_impl_openFor_L3 (mh_9_0 : List Bool) (mh_4_0 : DBoard) (mh_5_0 : DState) (side2 : Int) (kind3 : Int) (x15 : Int) (x16 : Int) : Option R := lpK G T 19 Tryz.f19 [1, 1, 0, 1, 0] (js 2 ((I side2) :: (I kind3) :: (AV.ptr (Id.h 4 0) none 0) :: (AV.ptr (Id.h 5 0) none 0) :: js 3 ((.own (Id.h 9 0) none 0 mh_9_0.length mh_9_0.length) :: js 5 ((I x15) :: (I x16) :: js 20 [])))) [(Id.h 4 0, some ⟨false, true, false, 0, cBoard mh_4_0⟩), (Id.h 5 0, some ⟨false, true, false, 0, cState mh_5_0⟩), (Id.h 9 0, some (rowB true false 1 cB mh_9_0))]
noncomputable def L_spec_rTerrain_L2 (name1 : ByteArray) (x7 : List DTerrain) (x8 : Int) (x9 : Int) : Option R := lpK G T 106 Tryz.f106 [1, 0, 1, 0] (js 1 ((S name1) :: js 5 ((slc cTerrain x7) :: (I x8) :: (I x9) :: js 10 []))) []
noncomputable def L_laws_qHas_L2 (n1 : Int) (x7 : List Int) (x8 : Int) (x9 : Int) : Option R := lpK G T 14 Tryz.f14 [1, 0, 1, 0] (js 1 ((I n1) :: js 5 ((slc cI x7) :: (I x8) :: (I x9) :: js 7 []))) []
noncomputable def L_spec_l1Cur_rules_L5 (mh_4_1 : List DTerrain) (mh_4_2 : List DKind) (mh_5_0 : List ByteArray) (ml_0 : Dl1Cur) (mh_2_0f2 : Int) (mh_2_0f3 : Int) (mh_2_0f4 : Int) (mh_2_0f5 : Int) (mh_2_0f6 : Int) (mh_4_0f1o : Nat) (mh_4_0f1n : Nat) (mh_4_0f1k : Nat) (mh_4_0f2 : Int) (mh_4_0f3 : Int) (mh_4_0f4 : Int) (mh_4_0f5 : Int) (mh_4_0f6 : Int) (i6 : Int) : Option R := lpK G T 93 Tryz.f93 [1, 1, 1, 1, 0, 1, 0] ((AV.ptr (Id.l 0) none 0) :: js 1 ((AV.ptr (Id.h 2 0) none 0) :: js 1 ((AV.ptr (Id.h 4 0) none 0) :: (.own (Id.h 5 0) none 0 mh_5_0.length mh_5_0.length) :: (I i6) :: js 108 []))) [(Id.l 0, bl (cl1Cur ml_0)), (Id.h 2 0, some ⟨false, true, false, 0, [.emp, .emp, (I mh_2_0f2), (I mh_2_0f3), (I mh_2_0f4), (I mh_2_0f5), (I mh_2_0f6)]⟩), (Id.h 4 0, some ⟨false, true, false, 0, [(.own (Id.h 4 1) none 0 mh_4_1.length mh_4_1.length), (.own (Id.h 4 2) none mh_4_0f1o mh_4_0f1n mh_4_0f1k), (I mh_4_0f2), (I mh_4_0f3), (I mh_4_0f4), (I mh_4_0f5), (I mh_4_0f6)]⟩), (Id.h 4 1, some (rowB true true 5 cTerrainN mh_4_1)), (Id.h 4 2, some (rowB true false 6 cKind mh_4_2)), (Id.h 5 0, some (rowB true false 1 cS mh_5_0))]
noncomputable def L_impl_IsMap_L10 (mh_45_0 : List (List Int)) (mh_1_0 : DMap) (x46 : Int) (x47 : Int) : Option R := lpK G T 98 Tryz.f98 [1, 1, 1, 0, 1, 0] (js 1 ((AV.ptr (Id.h 1 0) none 0) :: js 43 ((.own (Id.h 45 0) none 0 mh_45_0.length mh_45_0.length) :: (I x46) :: (I x47) :: js 18 []))) [(Id.h 1 0, some ⟨false, true, false, 0, cMap mh_1_0⟩), (Id.h 45 0, some (rowB true false 1 cLI mh_45_0))]
noncomputable def L_spec_l1Cur_rules_L10 (mh_4_1 : List DTerrain) (mh_4_2 : List DKind) (mh_5_0 : List ByteArray) (mh_7_1 : List Int) (ml_0 : Dl1Cur) (mh_2_0f2 : Int) (mh_2_0f3 : Int) (mh_2_0f4 : Int) (mh_2_0f5 : Int) (mh_2_0f6 : Int) (mh_4_0f1o : Nat) (mh_4_0f1n : Nat) (mh_4_0f1k : Nat) (mh_4_0f2 : Int) (mh_4_0f3 : Int) (mh_4_0f4 : Int) (mh_4_0f5 : Int) (mh_4_0f6 : Int) (mh_7_0f0 : ByteArray) (mh_7_0f2 : Int) (mh_7_0f3 : Int) (mh_7_0f4 : Bool) (i6 : Int) (x94 : Int) (x95 : Int) : Option R := lpK G T 93 Tryz.f93 [1, 1, 1, 1, 0, 1, 0, 0, 1, 0, 0, 1, 1, 0, 1, 0] ((AV.ptr (Id.l 0) none 0) :: js 1 ((AV.ptr (Id.h 2 0) none 0) :: js 1 ((AV.ptr (Id.h 4 0) none 0) :: (.own (Id.h 5 0) none 0 mh_5_0.length mh_5_0.length) :: (I i6) :: (AV.ptr (Id.h 7 0) none 0) :: js 86 ((I x94) :: (I x95) :: js 19 [])))) [(Id.l 0, bl (cl1Cur ml_0)), (Id.h 2 0, some ⟨false, true, false, 0, [.emp, .emp, (I mh_2_0f2), (I mh_2_0f3), (I mh_2_0f4), (I mh_2_0f5), (I mh_2_0f6)]⟩), (Id.h 4 0, some ⟨false, true, false, 0, [(.own (Id.h 4 1) none 0 mh_4_1.length mh_4_1.length), (.own (Id.h 4 2) none mh_4_0f1o mh_4_0f1n mh_4_0f1k), (I mh_4_0f2), (I mh_4_0f3), (I mh_4_0f4), (I mh_4_0f5), (I mh_4_0f6)]⟩), (Id.h 4 1, some (rowB true true 5 cTerrainN mh_4_1)), (Id.h 4 2, some (rowB true false 6 cKind mh_4_2)), (Id.h 5 0, some (rowB true false 1 cS mh_5_0)), (Id.h 7 0, some ⟨false, true, false, 0, [(S mh_7_0f0), (.own (Id.h 7 1) none 0 mh_7_1.length mh_7_1.length), (I mh_7_0f2), (I mh_7_0f3), (B mh_7_0f4)]⟩), (Id.h 7 1, some (rowB true false 1 cI mh_7_1))]
noncomputable def L_impl_IsMap_L15 (mh_45_0 : List (List Int)) (mh_1_0 : DMap) (x46 : Int) (x47 : Int) (x54 : List Int) (x55 : Int) (x56 : Int) : Option R := lpK G T 98 Tryz.f98 [1, 1, 1, 0, 1, 0, 0, 1, 1, 0, 0, 1, 1, 1, 0] (js 1 ((AV.ptr (Id.h 1 0) none 0) :: js 43 ((.own (Id.h 45 0) none 0 mh_45_0.length mh_45_0.length) :: (I x46) :: (I x47) :: js 6 ((slc cI x54) :: (I x55) :: (I x56) :: js 9 [])))) [(Id.h 1 0, some ⟨false, true, false, 0, cMap mh_1_0⟩), (Id.h 45 0, some (rowB true false 1 cLI mh_45_0))]
noncomputable def L_slices_IndexFunc_int_of_impl_goodTerrain_1_L2 (s0 : List Int) (x7 : Int) (x8 : Int) : Option R := lpK G T 86 Tryz.f86 [1, 0, 1, 0] ((slc cI s0) :: (.clo 117 []) :: js 5 ((I x7) :: (I x8) :: js 10 [])) []
noncomputable def L_impl_CheckSupplyPath_L8 (mh_13_0 : List Bool) (mh_5_0 : DBoard) (path4 : List Int) (x70 : List Int) (x71 : Int) (x72 : Int) : Option R := lpK G T 8 Tryz.f8 [1, 1, 1, 1, 1, 0, 1, 0] (js 4 ((slc cI path4) :: (AV.ptr (Id.h 5 0) none 0) :: js 7 ((.own (Id.h 13 0) none 0 mh_13_0.length mh_13_0.length) :: js 56 ((slc cI x70) :: (I x71) :: (I x72) :: js 37 [])))) [(Id.h 5 0, some ⟨false, true, false, 0, cBoard mh_5_0⟩), (Id.h 13 0, some (rowB true false 1 cB mh_13_0))]
noncomputable def L_impl_controls_L4 (mh_3_0 : DBoard) (mh_4_0 : DUnit) (i2 : Int) (x30 : Int) : Option R := lpK G T 87 Tryz.f87 [1, 1, 0, 1, 0] (js 2 ((I i2) :: (AV.ptr (Id.h 3 0) none 0) :: (AV.ptr (Id.h 4 0) none 0) :: js 25 ((I x30) :: js 20 []))) [(Id.h 3 0, some ⟨false, true, false, 0, cBoard mh_3_0⟩), (Id.h 4 0, some ⟨false, true, false, 0, cUnit mh_4_0⟩)]
noncomputable def L_impl_inZone_L2 (mh_4_0 : DBoard) (side2 : Int) (i3 : Int) (x12 : List DUnit) (x13 : Int) (x14 : Int) : Option R := lpK G T 70 Tryz.f70 [1, 0, 1, 0] (js 2 ((I side2) :: (I i3) :: (AV.ptr (Id.h 4 0) none 0) :: js 7 ((slc cUnit x12) :: (I x13) :: (I x14) :: js 14 []))) [(Id.h 4 0, some ⟨false, true, false, 0, cBoard mh_4_0⟩)]
noncomputable def L_impl_increasing_L2 (list0 : List Int) (i3 : Int) : Option R := lpK G T 65 Tryz.f65 [1, 0, 1, 0] ((slc cI list0) :: js 2 ((I i3) :: js 16 [])) []
noncomputable def L_spec_l1All_L2 (lo1 : Int) (hi2 : Int) (x9 : List Int) (x10 : Int) (x11 : Int) : Option R := lpK G T 36 Tryz.f36 [1, 0, 1, 0] (js 1 ((I lo1) :: (I hi2) :: js 6 ((slc cI x9) :: (I x10) :: (I x11) :: js 9 []))) []
noncomputable def L_slices_IndexFunc_Kind_of_impl_kindIndex_1_L2 (ml_0f0 : ByteArray) (s0 : List DKind) (x7 : Int) (x8 : Int) : Option R := lpK G T 120 Tryz.f120 [1, 0, 1, 0] ((slc cKind s0) :: (.clo 121 [(AV.ptr (Id.l 0) none 0)]) :: js 5 ((I x7) :: (I x8) :: js 10 [])) [(Id.l 0, some ⟨false, false, false, 0, [(S ml_0f0)]⟩)]
noncomputable def L_spec_jFar_L3 (mh_7_0 : List Int) (mh_3_0 : DMap) (open1 : List Bool) (sources2 : List Int) (out7o : Nat) (out7n : Nat) (out7k : Nat) (x19 : Int) (x20 : Int) : Option R := lpK G T 24 Tryz.f24 [1, 1, 0, 1, 0] (js 1 ((slc cB open1) :: (slc cI sources2) :: (AV.ptr (Id.h 3 0) none 0) :: js 3 ((.own (Id.h 7 0) none out7o out7n out7k) :: js 11 ((I x19) :: (I x20) :: js 72 [])))) [(Id.h 3 0, some ⟨false, true, false, 0, cMap mh_3_0⟩), (Id.h 7 0, some (rowB true false 1 cI mh_7_0))]
noncomputable def L_spec_jFar_L9 (mh_7_0 : List Int) (mh_9_0 : List Int) (mh_3_0 : DMap) (open1 : List Bool) (out7o : Nat) (out7n : Nat) (out7k : Nat) (x27 : List Int) (x28 : Int) (x29 : Int) : Option R := lpK G T 24 Tryz.f24 [1, 1, 1, 1, 0, 1, 0] (js 1 ((slc cB open1) :: js 1 ((AV.ptr (Id.h 3 0) none 0) :: js 3 ((.own (Id.h 7 0) none out7o out7n out7k) :: js 1 ((.own (Id.h 9 0) none 0 mh_9_0.length mh_9_0.length) :: js 17 ((slc cI x27) :: (I x28) :: (I x29) :: js 63 [])))))) [(Id.h 3 0, some ⟨false, true, false, 0, cMap mh_3_0⟩), (Id.h 7 0, some (rowB true false 1 cI mh_7_0)), (Id.h 9 0, some (rowB true false 1 cI mh_9_0))]
noncomputable def L_spec_jFar_L16 (mh_7_0 : List Int) (mh_9_0 : List Int) (mh_3_0 : DMap) (open1 : List Bool) (out7o : Nat) (out7n : Nat) (out7k : Nat) (at12 : Int) : Option R := lpK G T 24 Tryz.f24 [1, 1, 1, 1, 1, 0, 1, 0] (js 1 ((slc cB open1) :: js 1 ((AV.ptr (Id.h 3 0) none 0) :: js 3 ((.own (Id.h 7 0) none out7o out7n out7k) :: js 1 ((.own (Id.h 9 0) none 0 mh_9_0.length mh_9_0.length) :: js 2 ((I at12) :: js 80 [])))))) [(Id.h 3 0, some ⟨false, true, false, 0, cMap mh_3_0⟩), (Id.h 7 0, some (rowB true false 1 cI mh_7_0)), (Id.h 9 0, some (rowB true false 1 cI mh_9_0))]
noncomputable def L_spec_jFar_L19 (mh_7_0 : List Int) (mh_9_0 : List Int) (mh_3_0 : DMap) (open1 : List Bool) (out7o : Nat) (out7n : Nat) (out7k : Nat) (at12 : Int) (d13 : Int) : Option R := lpK G T 24 Tryz.f24 [1, 1, 1, 1, 1, 0, 1, 0, 0, 1, 0, 0, 1, 0] (js 1 ((slc cB open1) :: js 1 ((AV.ptr (Id.h 3 0) none 0) :: js 3 ((.own (Id.h 7 0) none out7o out7n out7k) :: js 1 ((.own (Id.h 9 0) none 0 mh_9_0.length mh_9_0.length) :: js 2 ((I at12) :: (I d13) :: js 79 [])))))) [(Id.h 3 0, some ⟨false, true, false, 0, cMap mh_3_0⟩), (Id.h 7 0, some (rowB true false 1 cI mh_7_0)), (Id.h 9 0, some (rowB true false 1 cI mh_9_0))]
noncomputable def A_laws_FnSupply (code0 : KSl) (more1 : KSl) : Option R := call G 3 [(Kn code0), (Kn more1)] []
noncomputable def A_impl_goodState (b0 : DBoard) (s1 : DState) : Option R := call G 85 [(.agg (cBoard b0)), (.agg (cState s1))] []
def en_impl_goodState : Bool → R := fun (a : Bool) => (B a, [])
theorem inj_impl_goodState : Inj en_impl_goodState := fun a b h => by
  simpa [en_impl_goodState, Prod.ext_iff, and_assoc] using h
noncomputable def cl_impl_goodState {γ : Type} (b0 : DBoard) (s1 : DState) (k : Bool → Option γ) : Option γ := cl en_impl_goodState (call G) 85 [(.agg (cBoard b0)), (.agg (cState s1))] [] k
theorem k_impl_goodState {γ : Type} (b0 : DBoard) (s1 : DState) {v : Bool} (h : A_impl_goodState b0 s1 = some (en_impl_goodState v)) (k : Bool → Option γ) : cl_impl_goodState b0 s1 k = k v := cl_eq inj_impl_goodState h k
noncomputable def A_spec_sUnit (b0 : DBoard) (u1 : DUnit) : Option R := call G 88 [(.agg (cBoard b0)), (.agg (cUnit u1))] []
def en_spec_sUnit : Bool → R := fun (a : Bool) => (B a, [])
theorem inj_spec_sUnit : Inj en_spec_sUnit := fun a b h => by
  simpa [en_spec_sUnit, Prod.ext_iff, and_assoc] using h
noncomputable def cl_spec_sUnit {γ : Type} (b0 : DBoard) (u1 : DUnit) (k : Bool → Option γ) : Option γ := cl en_spec_sUnit (call G) 88 [(.agg (cBoard b0)), (.agg (cUnit u1))] [] k
theorem k_spec_sUnit {γ : Type} (b0 : DBoard) (u1 : DUnit) {v : Bool} (h : A_spec_sUnit b0 u1 = some (en_spec_sUnit v)) (k : Bool → Option γ) : cl_spec_sUnit b0 u1 k = k v := cl_eq inj_spec_sUnit h k
noncomputable def A_spec_zSources (b0 : DBoard) (s1 : DState) (side2 : Int) (i3 : Int) : Option R := call G 103 [(.agg (cBoard b0)), (.agg (cState s1)), (I side2), (I i3)] []
def en_spec_zSources : List Int → R := fun (a : List Int) => (slc cI a, [])
theorem inj_spec_zSources : Inj en_spec_zSources := fun a b h => by
  simpa [en_spec_zSources, Prod.ext_iff, and_assoc] using h
noncomputable def cl_spec_zSources {γ : Type} (b0 : DBoard) (s1 : DState) (side2 : Int) (i3 : Int) (k : List Int → Option γ) : Option γ := cl en_spec_zSources (call G) 103 [(.agg (cBoard b0)), (.agg (cState s1)), (I side2), (I i3)] [] k
theorem k_spec_zSources {γ : Type} (b0 : DBoard) (s1 : DState) (side2 : Int) (i3 : Int) {v : List Int} (h : A_spec_zSources b0 s1 side2 i3 = some (en_spec_zSources v)) (k : List Int → Option γ) : cl_spec_zSources b0 s1 side2 i3 k = k v := cl_eq inj_spec_zSources h k
noncomputable def A_spec_l1Rising (l0 : List Int) (lo1 : Int) (hi2 : Int) : Option R := call G 74 [(slc cI l0), (I lo1), (I hi2)] []
def en_spec_l1Rising : Bool → R := fun (a : Bool) => (B a, [])
theorem inj_spec_l1Rising : Inj en_spec_l1Rising := fun a b h => by
  simpa [en_spec_l1Rising, Prod.ext_iff, and_assoc] using h
noncomputable def cl_spec_l1Rising {γ : Type} (l0 : List Int) (lo1 : Int) (hi2 : Int) (k : Bool → Option γ) : Option γ := cl en_spec_l1Rising (call G) 74 [(slc cI l0), (I lo1), (I hi2)] [] k
theorem k_spec_l1Rising {γ : Type} (l0 : List Int) (lo1 : Int) (hi2 : Int) {v : Bool} (h : A_spec_l1Rising l0 lo1 hi2 = some (en_spec_l1Rising v)) (k : Bool → Option γ) : cl_spec_l1Rising l0 lo1 hi2 k = k v := cl_eq inj_spec_l1Rising h k
noncomputable def A_impl_blockedFor (b0 : DBoard) (s1 : DState) (side2 : Int) (i3 : Int) : Option R := call G 45 [(.agg (cBoard b0)), (.agg (cState s1)), (I side2), (I i3)] []
def en_impl_blockedFor : Bool → R := fun (a : Bool) => (B a, [])
theorem inj_impl_blockedFor : Inj en_impl_blockedFor := fun a b h => by
  simpa [en_impl_blockedFor, Prod.ext_iff, and_assoc] using h
noncomputable def cl_impl_blockedFor {γ : Type} (b0 : DBoard) (s1 : DState) (side2 : Int) (i3 : Int) (k : Bool → Option γ) : Option γ := cl en_impl_blockedFor (call G) 45 [(.agg (cBoard b0)), (.agg (cState s1)), (I side2), (I i3)] [] k
theorem k_impl_blockedFor {γ : Type} (b0 : DBoard) (s1 : DState) (side2 : Int) (i3 : Int) {v : Bool} (h : A_impl_blockedFor b0 s1 side2 i3 = some (en_impl_blockedFor v)) (k : Bool → Option γ) : cl_impl_blockedFor b0 s1 side2 i3 k = k v := cl_eq inj_impl_blockedFor h k
noncomputable def A_spec_jBlocked (b0 : DBoard) (s1 : DState) (side2 : Int) (i3 : Int) : Option R := call G 76 [(.agg (cBoard b0)), (.agg (cState s1)), (I side2), (I i3)] []
def en_spec_jBlocked : Bool → R := fun (a : Bool) => (B a, [])
theorem inj_spec_jBlocked : Inj en_spec_jBlocked := fun a b h => by
  simpa [en_spec_jBlocked, Prod.ext_iff, and_assoc] using h
noncomputable def cl_spec_jBlocked {γ : Type} (b0 : DBoard) (s1 : DState) (side2 : Int) (i3 : Int) (k : Bool → Option γ) : Option γ := cl en_spec_jBlocked (call G) 76 [(.agg (cBoard b0)), (.agg (cState s1)), (I side2), (I i3)] [] k
theorem k_spec_jBlocked {γ : Type} (b0 : DBoard) (s1 : DState) (side2 : Int) (i3 : Int) {v : Bool} (h : A_spec_jBlocked b0 s1 side2 i3 = some (en_spec_jBlocked v)) (k : Bool → Option γ) : cl_spec_jBlocked b0 s1 side2 i3 k = k v := cl_eq inj_spec_jBlocked h k
noncomputable def A_impl_isEdge (m0 : DMap) (edge1 : Int) : Option R := call G 112 [(.agg (cMap m0)), (I edge1)] []
def en_impl_isEdge : Bool → R := fun (a : Bool) => (B a, [])
theorem inj_impl_isEdge : Inj en_impl_isEdge := fun a b h => by
  simpa [en_impl_isEdge, Prod.ext_iff, and_assoc] using h
noncomputable def cl_impl_isEdge {γ : Type} (m0 : DMap) (edge1 : Int) (k : Bool → Option γ) : Option γ := cl en_impl_isEdge (call G) 112 [(.agg (cMap m0)), (I edge1)] [] k
theorem k_impl_isEdge {γ : Type} (m0 : DMap) (edge1 : Int) {v : Bool} (h : A_impl_isEdge m0 edge1 = some (en_impl_isEdge v)) (k : Bool → Option γ) : cl_impl_isEdge m0 edge1 k = k v := cl_eq inj_impl_isEdge h k
noncomputable def A_spec_l1Cur_place (ml_0 : Dl1Cur) (m1 : DMap) : Option R := call G 58 [(AV.ptr (Id.l 0) none 0), (.agg (cMap m1))] [(Id.l 0, bl (cl1Cur ml_0))]
noncomputable def A_spec_l1Has (l0 : List Int) (n1 : Int) : Option R := call G 38 [(slc cI l0), (I n1)] []
def en_spec_l1Has : Bool → R := fun (a : Bool) => (B a, [])
theorem inj_spec_l1Has : Inj en_spec_l1Has := fun a b h => by
  simpa [en_spec_l1Has, Prod.ext_iff, and_assoc] using h
noncomputable def cl_spec_l1Has {γ : Type} (l0 : List Int) (n1 : Int) (k : Bool → Option γ) : Option γ := cl en_spec_l1Has (call G) 38 [(slc cI l0), (I n1)] [] k
theorem k_spec_l1Has {γ : Type} (l0 : List Int) (n1 : Int) {v : Bool} (h : A_spec_l1Has l0 n1 = some (en_spec_l1Has v)) (k : Bool → Option γ) : cl_spec_l1Has l0 n1 k = k v := cl_eq inj_spec_l1Has h k
noncomputable def A_impl_hasUnit (b0 : DBoard) (s1 : DState) (u2 : Int) : Option R := call G 42 [(.agg (cBoard b0)), (.agg (cState s1)), (I u2)] []
def en_impl_hasUnit : Bool → R := fun (a : Bool) => (B a, [])
theorem inj_impl_hasUnit : Inj en_impl_hasUnit := fun a b h => by
  simpa [en_impl_hasUnit, Prod.ext_iff, and_assoc] using h
noncomputable def cl_impl_hasUnit {γ : Type} (b0 : DBoard) (s1 : DState) (u2 : Int) (k : Bool → Option γ) : Option γ := cl en_impl_hasUnit (call G) 42 [(.agg (cBoard b0)), (.agg (cState s1)), (I u2)] [] k
theorem k_impl_hasUnit {γ : Type} (b0 : DBoard) (s1 : DState) (u2 : Int) {v : Bool} (h : A_impl_hasUnit b0 s1 u2 = some (en_impl_hasUnit v)) (k : Bool → Option γ) : cl_impl_hasUnit b0 s1 u2 k = k v := cl_eq inj_impl_hasUnit h k
noncomputable def A_spec_zIn (b0 : DBoard) (s1 : DState) (i2 : Int) (side3 : Int) : Option R := call G 92 [(.agg (cBoard b0)), (.agg (cState s1)), (I i2), (I side3)] []
def en_spec_zIn : Bool → R := fun (a : Bool) => (B a, [])
theorem inj_spec_zIn : Inj en_spec_zIn := fun a b h => by
  simpa [en_spec_zIn, Prod.ext_iff, and_assoc] using h
noncomputable def cl_spec_zIn {γ : Type} (b0 : DBoard) (s1 : DState) (i2 : Int) (side3 : Int) (k : Bool → Option γ) : Option γ := cl en_spec_zIn (call G) 92 [(.agg (cBoard b0)), (.agg (cState s1)), (I i2), (I side3)] [] k
theorem k_spec_zIn {γ : Type} (b0 : DBoard) (s1 : DState) (i2 : Int) (side3 : Int) {v : Bool} (h : A_spec_zIn b0 s1 i2 side3 = some (en_spec_zIn v)) (k : Bool → Option γ) : cl_spec_zIn b0 s1 i2 side3 k = k v := cl_eq inj_spec_zIn h k
noncomputable def A_spec_mNext (m0 : DMap) (i1 : Int) (d2 : Int) : Option R := call G 25 [(.agg (cMap m0)), (I i1), (I d2)] []
def en_spec_mNext : Int → R := fun (a : Int) => (I a, [])
theorem inj_spec_mNext : Inj en_spec_mNext := fun a b h => by
  simpa [en_spec_mNext, Prod.ext_iff, and_assoc] using h
noncomputable def cl_spec_mNext {γ : Type} (m0 : DMap) (i1 : Int) (d2 : Int) (k : Int → Option γ) : Option γ := cl en_spec_mNext (call G) 25 [(.agg (cMap m0)), (I i1), (I d2)] [] k
theorem k_spec_mNext {γ : Type} (m0 : DMap) (i1 : Int) (d2 : Int) {v : Int} (h : A_spec_mNext m0 i1 d2 = some (en_spec_mNext v)) (k : Int → Option γ) : cl_spec_mNext m0 i1 d2 k = k v := cl_eq inj_spec_mNext h k
noncomputable def A_spec_l1Cur_among (ml_0 : Dl1Cur) (list1 : List Int) : Option R := call G 30 [(AV.ptr (Id.l 0) none 0), (slc cI list1)] [(Id.l 0, bl (cl1Cur ml_0))]
def en_spec_l1Cur_among : Int × Dl1Cur → R := fun (a : Int × Dl1Cur) => (I a.fst, [(Id.l 0, bl (cl1Cur a.snd))])
theorem inj_spec_l1Cur_among : Inj en_spec_l1Cur_among := fun a b h => by
  simpa [en_spec_l1Cur_among, Prod.ext_iff, and_assoc] using h
noncomputable def cl_spec_l1Cur_among {γ : Type} (ml_0 : Dl1Cur) (list1 : List Int) (k : Int × Dl1Cur → Option γ) : Option γ := cl en_spec_l1Cur_among (call G) 30 [(AV.ptr (Id.l 0) none 0), (slc cI list1)] [(Id.l 0, bl (cl1Cur ml_0))] k
theorem ko_spec_l1Cur_among {γ : Type} (ml_0 : Dl1Cur) (list1 : List Int) {Q : Int × Dl1Cur → Prop} (h : ∃ v, A_spec_l1Cur_among ml_0 list1 = some (en_spec_l1Cur_among v) ∧ Q v) {k : Int × Dl1Cur → Option γ} {Q' : γ → Prop} (hk : ∀ v, Q v → OK (k v) Q') : OK (cl_spec_l1Cur_among ml_0 list1 k) Q' := cl_ok inj_spec_l1Cur_among h hk
noncomputable def A_spec_DrawSupplyPath (code0 : KSl) : Option R := call G 4 [(Kn code0)] []
def en_spec_DrawSupplyPath : DBoard × DState × Int × List Int → R := fun (a : DBoard × DState × Int × List Int) => (AV.tup [AV.agg (cBoard a.fst), AV.agg (cState a.snd.fst), I a.snd.snd.fst, slc cI a.snd.snd.snd], [])
theorem inj_spec_DrawSupplyPath : Inj en_spec_DrawSupplyPath := fun a b h => by
  first | (simpa [en_spec_DrawSupplyPath, Prod.ext_iff, and_assoc] using h) | (obtain ⟨⟨⟨_, _, _, _, _, _, _⟩, ⟨_, _, _, _, _⟩⟩, ⟨⟨_, _, _⟩, ⟨_, _⟩⟩⟩ := a; obtain ⟨⟨⟨_, _, _, _, _, _, _⟩, ⟨_, _, _, _, _⟩⟩, ⟨⟨_, _, _⟩, ⟨_, _⟩⟩⟩ := b; simp [en_spec_DrawSupplyPath] at h ⊢; simp_all; done) | (obtain ⟨⟨⟨_, _, _, _, _, _, _⟩, ⟨_, _, _, _, _⟩⟩, ⟨⟨_, _, _⟩, ⟨_, _⟩⟩⟩ := a; obtain ⟨⟨⟨_, _, _, _, _, _, _⟩, ⟨_, _, _, _, _⟩⟩, ⟨⟨_, _, _⟩, ⟨_, _⟩⟩⟩ := b; simp [en_spec_DrawSupplyPath] at h; obtain ⟨h1, h2⟩ := h; have h3 := List.append_inj h2.2.2 h1.2.1.1; simp_all) | (obtain ⟨⟨⟨_, _, _, _, _, _, _⟩, ⟨_, _, _, _, _⟩⟩, ⟨⟨_, _, _⟩, ⟨_, _⟩⟩⟩ := a; obtain ⟨⟨⟨_, _, _, _, _, _, _⟩, ⟨_, _, _, _, _⟩⟩, ⟨⟨_, _, _⟩, ⟨_, _⟩⟩⟩ := b; simp [en_spec_DrawSupplyPath] at h; obtain ⟨h1, h2⟩ := h; have h3 := List.append_inj h2.2 h1.1; simp_all)
noncomputable def cl_spec_DrawSupplyPath {γ : Type} (code0 : KSl) (k : DBoard × DState × Int × List Int → Option γ) : Option γ := cl en_spec_DrawSupplyPath (call G) 4 [(Kn code0)] [] k
theorem ko_spec_DrawSupplyPath {γ : Type} (code0 : KSl) {Q : DBoard × DState × Int × List Int → Prop} (h : ∃ v, A_spec_DrawSupplyPath code0 = some (en_spec_DrawSupplyPath v) ∧ Q v) {k : DBoard × DState × Int × List Int → Option γ} {Q' : γ → Prop} (hk : ∀ v, Q v → OK (k v) Q') : OK (cl_spec_DrawSupplyPath code0 k) Q' := cl_ok inj_spec_DrawSupplyPath h hk
noncomputable def A_impl_SupplyPath (b0 : DBoard) (s1 : DState) (u2 : Int) (sources3 : List Int) : Option R := call G 5 [(.agg (cBoard b0)), (.agg (cState s1)), (I u2), (slc cI sources3)] []
def en_impl_SupplyPath : List Int × Bool → R := fun (a : List Int × Bool) => (AV.tup [slc cI a.fst, B a.snd], [])
theorem inj_impl_SupplyPath : Inj en_impl_SupplyPath := fun a b h => by
  first | (simpa [en_impl_SupplyPath, Prod.ext_iff, and_assoc] using h) | (obtain ⟨_, _⟩ := a; obtain ⟨_, _⟩ := b; simp [en_impl_SupplyPath] at h ⊢; simp_all; done) | (obtain ⟨_, _⟩ := a; obtain ⟨_, _⟩ := b; simp [en_impl_SupplyPath] at h; obtain ⟨h1, h2⟩ := h; have h3 := List.append_inj h2.2.2 h1.2.1.1; simp_all) | (obtain ⟨_, _⟩ := a; obtain ⟨_, _⟩ := b; simp [en_impl_SupplyPath] at h; obtain ⟨h1, h2⟩ := h; have h3 := List.append_inj h2.2 h1.1; simp_all)
noncomputable def cl_impl_SupplyPath {γ : Type} (b0 : DBoard) (s1 : DState) (u2 : Int) (sources3 : List Int) (k : List Int × Bool → Option γ) : Option γ := cl en_impl_SupplyPath (call G) 5 [(.agg (cBoard b0)), (.agg (cState s1)), (I u2), (slc cI sources3)] [] k
theorem k_impl_SupplyPath {γ : Type} (b0 : DBoard) (s1 : DState) (u2 : Int) (sources3 : List Int) {v : List Int × Bool} (h : A_impl_SupplyPath b0 s1 u2 sources3 = some (en_impl_SupplyPath v)) (k : List Int × Bool → Option γ) : cl_impl_SupplyPath b0 s1 u2 sources3 k = k v := cl_eq inj_impl_SupplyPath h k
noncomputable def A_spec_SupplyPath (b0 : DBoard) (s1 : DState) (u2 : Int) (sources3 : List Int) : Option R := call G 6 [(.agg (cBoard b0)), (.agg (cState s1)), (I u2), (slc cI sources3)] []
def en_spec_SupplyPath : List Int × Bool → R := fun (a : List Int × Bool) => (AV.tup [AV.own (Id.r 0 0) none 0 (List.length a.fst) (List.length a.fst), B a.snd], [(Id.r 0 0, some (rowB true false 1 cI a.fst))])
theorem inj_spec_SupplyPath : Inj en_spec_SupplyPath := fun a b h => by
  first | (simpa [en_spec_SupplyPath, Prod.ext_iff, and_assoc] using h) | (obtain ⟨_, _⟩ := a; obtain ⟨_, _⟩ := b; simp [en_spec_SupplyPath] at h ⊢; simp_all; done) | (obtain ⟨_, _⟩ := a; obtain ⟨_, _⟩ := b; simp [en_spec_SupplyPath] at h; obtain ⟨h1, h2⟩ := h; have h3 := List.append_inj h2.2.2 h1.2.1.1; simp_all) | (obtain ⟨_, _⟩ := a; obtain ⟨_, _⟩ := b; simp [en_spec_SupplyPath] at h; obtain ⟨h1, h2⟩ := h; have h3 := List.append_inj h2.2 h1.1; simp_all)
noncomputable def cl_spec_SupplyPath {γ : Type} (b0 : DBoard) (s1 : DState) (u2 : Int) (sources3 : List Int) (k : List Int × Bool → Option γ) : Option γ := cl en_spec_SupplyPath (call G) 6 [(.agg (cBoard b0)), (.agg (cState s1)), (I u2), (slc cI sources3)] [] k
theorem k_spec_SupplyPath {γ : Type} (b0 : DBoard) (s1 : DState) (u2 : Int) (sources3 : List Int) {v : List Int × Bool} (h : A_spec_SupplyPath b0 s1 u2 sources3 = some (en_spec_SupplyPath v)) (k : List Int × Bool → Option γ) : cl_spec_SupplyPath b0 s1 u2 sources3 k = k v := cl_eq inj_spec_SupplyPath h k
noncomputable def A_spec_DrawCheckSupplyPath (code0 : KSl) : Option R := call G 7 [(Kn code0)] []
def en_spec_DrawCheckSupplyPath : DBoard × DState × Int × List Int × List Int → R := fun (a : DBoard × DState × Int × List Int × List Int) => (AV.tup [AV.agg (cBoard a.fst), AV.agg (cState a.snd.fst), I a.snd.snd.fst, slc cI a.snd.snd.snd.fst, slc cI a.snd.snd.snd.snd], [])
theorem inj_spec_DrawCheckSupplyPath : Inj en_spec_DrawCheckSupplyPath := fun a b h => by
  first | (simpa [en_spec_DrawCheckSupplyPath, Prod.ext_iff, and_assoc] using h) | (obtain ⟨⟨⟨_, _, _, _, _, _, _⟩, ⟨_, _, _, _, _⟩⟩, ⟨⟨_, _, _⟩, ⟨_, ⟨_, _⟩⟩⟩⟩ := a; obtain ⟨⟨⟨_, _, _, _, _, _, _⟩, ⟨_, _, _, _, _⟩⟩, ⟨⟨_, _, _⟩, ⟨_, ⟨_, _⟩⟩⟩⟩ := b; simp [en_spec_DrawCheckSupplyPath] at h ⊢; simp_all; done) | (obtain ⟨⟨⟨_, _, _, _, _, _, _⟩, ⟨_, _, _, _, _⟩⟩, ⟨⟨_, _, _⟩, ⟨_, ⟨_, _⟩⟩⟩⟩ := a; obtain ⟨⟨⟨_, _, _, _, _, _, _⟩, ⟨_, _, _, _, _⟩⟩, ⟨⟨_, _, _⟩, ⟨_, ⟨_, _⟩⟩⟩⟩ := b; simp [en_spec_DrawCheckSupplyPath] at h; obtain ⟨h1, h2⟩ := h; have h3 := List.append_inj h2.2.2 h1.2.1.1; simp_all) | (obtain ⟨⟨⟨_, _, _, _, _, _, _⟩, ⟨_, _, _, _, _⟩⟩, ⟨⟨_, _, _⟩, ⟨_, ⟨_, _⟩⟩⟩⟩ := a; obtain ⟨⟨⟨_, _, _, _, _, _, _⟩, ⟨_, _, _, _, _⟩⟩, ⟨⟨_, _, _⟩, ⟨_, ⟨_, _⟩⟩⟩⟩ := b; simp [en_spec_DrawCheckSupplyPath] at h; obtain ⟨h1, h2⟩ := h; have h3 := List.append_inj h2.2 h1.1; simp_all)
noncomputable def cl_spec_DrawCheckSupplyPath {γ : Type} (code0 : KSl) (k : DBoard × DState × Int × List Int × List Int → Option γ) : Option γ := cl en_spec_DrawCheckSupplyPath (call G) 7 [(Kn code0)] [] k
theorem ko_spec_DrawCheckSupplyPath {γ : Type} (code0 : KSl) {Q : DBoard × DState × Int × List Int × List Int → Prop} (h : ∃ v, A_spec_DrawCheckSupplyPath code0 = some (en_spec_DrawCheckSupplyPath v) ∧ Q v) {k : DBoard × DState × Int × List Int × List Int → Option γ} {Q' : γ → Prop} (hk : ∀ v, Q v → OK (k v) Q') : OK (cl_spec_DrawCheckSupplyPath code0 k) Q' := cl_ok inj_spec_DrawCheckSupplyPath h hk
noncomputable def A_impl_CheckSupplyPath (b0 : DBoard) (s1 : DState) (u2 : Int) (sources3 : List Int) (path4 : List Int) : Option R := call G 8 [(.agg (cBoard b0)), (.agg (cState s1)), (I u2), (slc cI sources3), (slc cI path4)] []
def en_impl_CheckSupplyPath : Bool × Bool → R := fun (a : Bool × Bool) => (AV.tup [B a.fst, B a.snd], [])
theorem inj_impl_CheckSupplyPath : Inj en_impl_CheckSupplyPath := fun a b h => by
  first | (simpa [en_impl_CheckSupplyPath, Prod.ext_iff, and_assoc] using h) | (obtain ⟨_, _⟩ := a; obtain ⟨_, _⟩ := b; simp [en_impl_CheckSupplyPath] at h ⊢; simp_all; done) | (obtain ⟨_, _⟩ := a; obtain ⟨_, _⟩ := b; simp [en_impl_CheckSupplyPath] at h; obtain ⟨h1, h2⟩ := h; have h3 := List.append_inj h2.2.2 h1.2.1.1; simp_all) | (obtain ⟨_, _⟩ := a; obtain ⟨_, _⟩ := b; simp [en_impl_CheckSupplyPath] at h; obtain ⟨h1, h2⟩ := h; have h3 := List.append_inj h2.2 h1.1; simp_all)
noncomputable def cl_impl_CheckSupplyPath {γ : Type} (b0 : DBoard) (s1 : DState) (u2 : Int) (sources3 : List Int) (path4 : List Int) (k : Bool × Bool → Option γ) : Option γ := cl en_impl_CheckSupplyPath (call G) 8 [(.agg (cBoard b0)), (.agg (cState s1)), (I u2), (slc cI sources3), (slc cI path4)] [] k
theorem k_impl_CheckSupplyPath {γ : Type} (b0 : DBoard) (s1 : DState) (u2 : Int) (sources3 : List Int) (path4 : List Int) {v : Bool × Bool} (h : A_impl_CheckSupplyPath b0 s1 u2 sources3 path4 = some (en_impl_CheckSupplyPath v)) (k : Bool × Bool → Option γ) : cl_impl_CheckSupplyPath b0 s1 u2 sources3 path4 k = k v := cl_eq inj_impl_CheckSupplyPath h k
noncomputable def A_spec_CheckSupplyPath (b0 : DBoard) (s1 : DState) (u2 : Int) (sources3 : List Int) (path4 : List Int) : Option R := call G 9 [(.agg (cBoard b0)), (.agg (cState s1)), (I u2), (slc cI sources3), (slc cI path4)] []
def en_spec_CheckSupplyPath : Bool × Bool → R := fun (a : Bool × Bool) => (AV.tup [B a.fst, B a.snd], [])
theorem inj_spec_CheckSupplyPath : Inj en_spec_CheckSupplyPath := fun a b h => by
  first | (simpa [en_spec_CheckSupplyPath, Prod.ext_iff, and_assoc] using h) | (obtain ⟨_, _⟩ := a; obtain ⟨_, _⟩ := b; simp [en_spec_CheckSupplyPath] at h ⊢; simp_all; done) | (obtain ⟨_, _⟩ := a; obtain ⟨_, _⟩ := b; simp [en_spec_CheckSupplyPath] at h; obtain ⟨h1, h2⟩ := h; have h3 := List.append_inj h2.2.2 h1.2.1.1; simp_all) | (obtain ⟨_, _⟩ := a; obtain ⟨_, _⟩ := b; simp [en_spec_CheckSupplyPath] at h; obtain ⟨h1, h2⟩ := h; have h3 := List.append_inj h2.2 h1.1; simp_all)
noncomputable def cl_spec_CheckSupplyPath {γ : Type} (b0 : DBoard) (s1 : DState) (u2 : Int) (sources3 : List Int) (path4 : List Int) (k : Bool × Bool → Option γ) : Option γ := cl en_spec_CheckSupplyPath (call G) 9 [(.agg (cBoard b0)), (.agg (cState s1)), (I u2), (slc cI sources3), (slc cI path4)] [] k
theorem k_spec_CheckSupplyPath {γ : Type} (b0 : DBoard) (s1 : DState) (u2 : Int) (sources3 : List Int) (path4 : List Int) {v : Bool × Bool} (h : A_spec_CheckSupplyPath b0 s1 u2 sources3 path4 = some (en_spec_CheckSupplyPath v)) (k : Bool × Bool → Option γ) : cl_spec_CheckSupplyPath b0 s1 u2 sources3 path4 k = k v := cl_eq inj_spec_CheckSupplyPath h k
noncomputable def A_laws_qInts (a0 : List Int) (b1 : List Int) : Option R := call G 10 [(slc cI a0), (slc cI b1)] []
def en_laws_qInts : Bool → R := fun (a : Bool) => (B a, [])
theorem inj_laws_qInts : Inj en_laws_qInts := fun a b h => by
  simpa [en_laws_qInts, Prod.ext_iff, and_assoc] using h
noncomputable def cl_laws_qInts {γ : Type} (a0 : List Int) (b1 : List Int) (k : Bool → Option γ) : Option γ := cl en_laws_qInts (call G) 10 [(slc cI a0), (slc cI b1)] [] k
theorem k_laws_qInts {γ : Type} (a0 : List Int) (b1 : List Int) {v : Bool} (h : A_laws_qInts a0 b1 = some (en_laws_qInts v)) (k : Bool → Option γ) : cl_laws_qInts a0 b1 k = k v := cl_eq inj_laws_qInts h k
noncomputable def A_impl_InSupply (b0 : DBoard) (s1 : DState) (u2 : Int) (sources3 : List Int) : Option R := call G 11 [(.agg (cBoard b0)), (.agg (cState s1)), (I u2), (slc cI sources3)] []
def en_impl_InSupply : Bool × Bool → R := fun (a : Bool × Bool) => (AV.tup [B a.fst, B a.snd], [])
theorem inj_impl_InSupply : Inj en_impl_InSupply := fun a b h => by
  simpa [en_impl_InSupply, Prod.ext_iff, and_assoc] using h
noncomputable def cl_impl_InSupply {γ : Type} (b0 : DBoard) (s1 : DState) (u2 : Int) (sources3 : List Int) (k : Bool × Bool → Option γ) : Option γ := cl en_impl_InSupply (call G) 11 [(.agg (cBoard b0)), (.agg (cState s1)), (I u2), (slc cI sources3)] [] k
theorem k_impl_InSupply {γ : Type} (b0 : DBoard) (s1 : DState) (u2 : Int) (sources3 : List Int) {v : Bool × Bool} (h : A_impl_InSupply b0 s1 u2 sources3 = some (en_impl_InSupply v)) (k : Bool × Bool → Option γ) : cl_impl_InSupply b0 s1 u2 sources3 k = k v := cl_eq inj_impl_InSupply h k
noncomputable def A_impl_SupplyMargin (b0 : DBoard) (s1 : DState) (u2 : Int) (sources3 : List Int) : Option R := call G 12 [(.agg (cBoard b0)), (.agg (cState s1)), (I u2), (slc cI sources3)] []
def en_impl_SupplyMargin : Int × Bool → R := fun (a : Int × Bool) => (AV.tup [I a.fst, B a.snd], [])
theorem inj_impl_SupplyMargin : Inj en_impl_SupplyMargin := fun a b h => by
  first | (simpa [en_impl_SupplyMargin, Prod.ext_iff, and_assoc] using h) | (obtain ⟨_, _⟩ := a; obtain ⟨_, _⟩ := b; simp [en_impl_SupplyMargin] at h ⊢; simp_all; done) | (obtain ⟨_, _⟩ := a; obtain ⟨_, _⟩ := b; simp [en_impl_SupplyMargin] at h; obtain ⟨h1, h2⟩ := h; have h3 := List.append_inj h2.2.2 h1.2.1.1; simp_all) | (obtain ⟨_, _⟩ := a; obtain ⟨_, _⟩ := b; simp [en_impl_SupplyMargin] at h; obtain ⟨h1, h2⟩ := h; have h3 := List.append_inj h2.2 h1.1; simp_all)
noncomputable def cl_impl_SupplyMargin {γ : Type} (b0 : DBoard) (s1 : DState) (u2 : Int) (sources3 : List Int) (k : Int × Bool → Option γ) : Option γ := cl en_impl_SupplyMargin (call G) 12 [(.agg (cBoard b0)), (.agg (cState s1)), (I u2), (slc cI sources3)] [] k
theorem k_impl_SupplyMargin {γ : Type} (b0 : DBoard) (s1 : DState) (u2 : Int) (sources3 : List Int) {v : Int × Bool} (h : A_impl_SupplyMargin b0 s1 u2 sources3 = some (en_impl_SupplyMargin v)) (k : Int × Bool → Option γ) : cl_impl_SupplyMargin b0 s1 u2 sources3 k = k v := cl_eq inj_impl_SupplyMargin h k
noncomputable def A_impl_CutHexes (b0 : DBoard) (s1 : DState) (u2 : Int) (sources3 : List Int) : Option R := call G 13 [(.agg (cBoard b0)), (.agg (cState s1)), (I u2), (slc cI sources3)] []
def en_impl_CutHexes : List Int × Bool → R := fun (a : List Int × Bool) => (AV.tup [slc cI a.fst, B a.snd], [])
theorem inj_impl_CutHexes : Inj en_impl_CutHexes := fun a b h => by
  first | (simpa [en_impl_CutHexes, Prod.ext_iff, and_assoc] using h) | (obtain ⟨_, _⟩ := a; obtain ⟨_, _⟩ := b; simp [en_impl_CutHexes] at h ⊢; simp_all; done) | (obtain ⟨_, _⟩ := a; obtain ⟨_, _⟩ := b; simp [en_impl_CutHexes] at h; obtain ⟨h1, h2⟩ := h; have h3 := List.append_inj h2.2.2 h1.2.1.1; simp_all) | (obtain ⟨_, _⟩ := a; obtain ⟨_, _⟩ := b; simp [en_impl_CutHexes] at h; obtain ⟨h1, h2⟩ := h; have h3 := List.append_inj h2.2 h1.1; simp_all)
noncomputable def cl_impl_CutHexes {γ : Type} (b0 : DBoard) (s1 : DState) (u2 : Int) (sources3 : List Int) (k : List Int × Bool → Option γ) : Option γ := cl en_impl_CutHexes (call G) 13 [(.agg (cBoard b0)), (.agg (cState s1)), (I u2), (slc cI sources3)] [] k
theorem k_impl_CutHexes {γ : Type} (b0 : DBoard) (s1 : DState) (u2 : Int) (sources3 : List Int) {v : List Int × Bool} (h : A_impl_CutHexes b0 s1 u2 sources3 = some (en_impl_CutHexes v)) (k : List Int × Bool → Option γ) : cl_impl_CutHexes b0 s1 u2 sources3 k = k v := cl_eq inj_impl_CutHexes h k
noncomputable def A_impl_inRange (n0 : Int) (low1 : Int) (high2 : Int) : Option R := call G 62 [(I n0), (I low1), (I high2)] []
def en_impl_inRange : Bool → R := fun (a : Bool) => (B a, [])
theorem inj_impl_inRange : Inj en_impl_inRange := fun a b h => by
  simpa [en_impl_inRange, Prod.ext_iff, and_assoc] using h
noncomputable def cl_impl_inRange {γ : Type} (n0 : Int) (low1 : Int) (high2 : Int) (k : Bool → Option γ) : Option γ := cl en_impl_inRange (call G) 62 [(I n0), (I low1), (I high2)] [] k
theorem k_impl_inRange {γ : Type} (n0 : Int) (low1 : Int) (high2 : Int) {v : Bool} (h : A_impl_inRange n0 low1 high2 = some (en_impl_inRange v)) (k : Bool → Option γ) : cl_impl_inRange n0 low1 high2 k = k v := cl_eq inj_impl_inRange h k
noncomputable def A_impl_sizeOf (b0 : DBoard) : Option R := call G 33 [(.agg (cBoard b0))] []
def en_impl_sizeOf : Int → R := fun (a : Int) => (I a, [])
theorem inj_impl_sizeOf : Inj en_impl_sizeOf := fun a b h => by
  simpa [en_impl_sizeOf, Prod.ext_iff, and_assoc] using h
noncomputable def cl_impl_sizeOf {γ : Type} (b0 : DBoard) (k : Int → Option γ) : Option γ := cl en_impl_sizeOf (call G) 33 [(.agg (cBoard b0))] [] k
theorem k_impl_sizeOf {γ : Type} (b0 : DBoard) {v : Int} (h : A_impl_sizeOf b0 = some (en_impl_sizeOf v)) (k : Int → Option γ) : cl_impl_sizeOf b0 k = k v := cl_eq inj_impl_sizeOf h k
noncomputable def A_spec_l1In (n0 : Int) (lo1 : Int) (hi2 : Int) : Option R := call G 49 [(I n0), (I lo1), (I hi2)] []
def en_spec_l1In : Bool → R := fun (a : Bool) => (B a, [])
theorem inj_spec_l1In : Inj en_spec_l1In := fun a b h => by
  simpa [en_spec_l1In, Prod.ext_iff, and_assoc] using h
noncomputable def cl_spec_l1In {γ : Type} (n0 : Int) (lo1 : Int) (hi2 : Int) (k : Bool → Option γ) : Option γ := cl en_spec_l1In (call G) 49 [(I n0), (I lo1), (I hi2)] [] k
theorem k_spec_l1In {γ : Type} (n0 : Int) (lo1 : Int) (hi2 : Int) {v : Bool} (h : A_spec_l1In n0 lo1 hi2 = some (en_spec_l1In v)) (k : Bool → Option γ) : cl_spec_l1In n0 lo1 hi2 k = k v := cl_eq inj_spec_l1In h k
noncomputable def A_spec_mSize (m0 : DMap) : Option R := call G 37 [(.agg (cMap m0))] []
def en_spec_mSize : Int → R := fun (a : Int) => (I a, [])
theorem inj_spec_mSize : Inj en_spec_mSize := fun a b h => by
  simpa [en_spec_mSize, Prod.ext_iff, and_assoc] using h
noncomputable def cl_spec_mSize {γ : Type} (m0 : DMap) (k : Int → Option γ) : Option γ := cl en_spec_mSize (call G) 37 [(.agg (cMap m0))] [] k
theorem k_spec_mSize {γ : Type} (m0 : DMap) {v : Int} (h : A_spec_mSize m0 = some (en_spec_mSize v)) (k : Int → Option γ) : cl_spec_mSize m0 k = k v := cl_eq inj_spec_mSize h k
noncomputable def A_spec_bCost (b0 : DBoard) (kind1 : Int) (i2 : Int) : Option R := call G 75 [(.agg (cBoard b0)), (I kind1), (I i2)] []
def en_spec_bCost : Int → R := fun (a : Int) => (I a, [])
theorem inj_spec_bCost : Inj en_spec_bCost := fun a b h => by
  simpa [en_spec_bCost, Prod.ext_iff, and_assoc] using h
noncomputable def cl_spec_bCost {γ : Type} (b0 : DBoard) (kind1 : Int) (i2 : Int) (k : Int → Option γ) : Option γ := cl en_spec_bCost (call G) 75 [(.agg (cBoard b0)), (I kind1), (I i2)] [] k
theorem k_spec_bCost {γ : Type} (b0 : DBoard) (kind1 : Int) (i2 : Int) {v : Int} (h : A_spec_bCost b0 kind1 i2 = some (en_spec_bCost v)) (k : Int → Option γ) : cl_spec_bCost b0 kind1 i2 k = k v := cl_eq inj_spec_bCost h k
noncomputable def A_impl_ownerOf (s0 : DState) (i1 : Int) : Option R := call G 69 [(.agg (cState s0)), (I i1)] []
def en_impl_ownerOf : Int → R := fun (a : Int) => (I a, [])
theorem inj_impl_ownerOf : Inj en_impl_ownerOf := fun a b h => by
  simpa [en_impl_ownerOf, Prod.ext_iff, and_assoc] using h
noncomputable def cl_impl_ownerOf {γ : Type} (s0 : DState) (i1 : Int) (k : Int → Option γ) : Option γ := cl en_impl_ownerOf (call G) 69 [(.agg (cState s0)), (I i1)] [] k
theorem k_impl_ownerOf {γ : Type} (s0 : DState) (i1 : Int) {v : Int} (h : A_impl_ownerOf s0 i1 = some (en_impl_ownerOf v)) (k : Int → Option γ) : cl_impl_ownerOf s0 i1 k = k v := cl_eq inj_impl_ownerOf h k
noncomputable def A_impl_inZone (b0 : DBoard) (s1 : DState) (side2 : Int) (i3 : Int) : Option R := call G 70 [(.agg (cBoard b0)), (.agg (cState s1)), (I side2), (I i3)] []
def en_impl_inZone : Bool → R := fun (a : Bool) => (B a, [])
theorem inj_impl_inZone : Inj en_impl_inZone := fun a b h => by
  simpa [en_impl_inZone, Prod.ext_iff, and_assoc] using h
noncomputable def cl_impl_inZone {γ : Type} (b0 : DBoard) (s1 : DState) (side2 : Int) (i3 : Int) (k : Bool → Option γ) : Option γ := cl en_impl_inZone (call G) 70 [(.agg (cBoard b0)), (.agg (cState s1)), (I side2), (I i3)] [] k
theorem k_impl_inZone {γ : Type} (b0 : DBoard) (s1 : DState) (side2 : Int) (i3 : Int) {v : Bool} (h : A_impl_inZone b0 s1 side2 i3 = some (en_impl_inZone v)) (k : Bool → Option γ) : cl_impl_inZone b0 s1 side2 i3 k = k v := cl_eq inj_impl_inZone h k
noncomputable def A_spec_sOwner (s0 : DState) (i1 : Int) : Option R := call G 91 [(.agg (cState s0)), (I i1)] []
def en_spec_sOwner : Int → R := fun (a : Int) => (I a, [])
theorem inj_spec_sOwner : Inj en_spec_sOwner := fun a b h => by
  simpa [en_spec_sOwner, Prod.ext_iff, and_assoc] using h
noncomputable def cl_spec_sOwner {γ : Type} (s0 : DState) (i1 : Int) (k : Int → Option γ) : Option γ := cl en_spec_sOwner (call G) 91 [(.agg (cState s0)), (I i1)] [] k
theorem k_spec_sOwner {γ : Type} (s0 : DState) (i1 : Int) {v : Int} (h : A_spec_sOwner s0 i1 = some (en_spec_sOwner v)) (k : Int → Option γ) : cl_spec_sOwner s0 i1 k = k v := cl_eq inj_spec_sOwner h k
noncomputable def A_impl_nextTo (m0 : DMap) (i1 : Int) (d2 : Int) : Option R := call G 46 [(.agg (cMap m0)), (I i1), (I d2)] []
def en_impl_nextTo : Int → R := fun (a : Int) => (I a, [])
theorem inj_impl_nextTo : Inj en_impl_nextTo := fun a b h => by
  simpa [en_impl_nextTo, Prod.ext_iff, and_assoc] using h
noncomputable def cl_impl_nextTo {γ : Type} (m0 : DMap) (i1 : Int) (d2 : Int) (k : Int → Option γ) : Option γ := cl en_impl_nextTo (call G) 46 [(.agg (cMap m0)), (I i1), (I d2)] [] k
theorem k_impl_nextTo {γ : Type} (m0 : DMap) (i1 : Int) (d2 : Int) {v : Int} (h : A_impl_nextTo m0 i1 d2 = some (en_impl_nextTo v)) (k : Int → Option γ) : cl_impl_nextTo m0 i1 d2 k = k v := cl_eq inj_impl_nextTo h k
noncomputable def A_spec_l1Cur_one (ml_0 : Dl1Cur) (n1 : Int) : Option R := call G 59 [(AV.ptr (Id.l 0) none 0), (I n1)] [(Id.l 0, bl (cl1Cur ml_0))]
def en_spec_l1Cur_one : Bool × Dl1Cur → R := fun (a : Bool × Dl1Cur) => (B a.fst, [(Id.l 0, bl (cl1Cur a.snd))])
theorem inj_spec_l1Cur_one : Inj en_spec_l1Cur_one := fun a b h => by
  simpa [en_spec_l1Cur_one, Prod.ext_iff, and_assoc] using h
noncomputable def cl_spec_l1Cur_one {γ : Type} (ml_0 : Dl1Cur) (n1 : Int) (k : Bool × Dl1Cur → Option γ) : Option γ := cl en_spec_l1Cur_one (call G) 59 [(AV.ptr (Id.l 0) none 0), (I n1)] [(Id.l 0, bl (cl1Cur ml_0))] k
theorem ko_spec_l1Cur_one {γ : Type} (ml_0 : Dl1Cur) (n1 : Int) {Q : Bool × Dl1Cur → Prop} (h : ∃ v, A_spec_l1Cur_one ml_0 n1 = some (en_spec_l1Cur_one v) ∧ Q v) {k : Bool × Dl1Cur → Option γ} {Q' : γ → Prop} (hk : ∀ v, Q v → OK (k v) Q') : OK (cl_spec_l1Cur_one ml_0 n1 k) Q' := cl_ok inj_spec_l1Cur_one h hk
noncomputable def A_spec_l1Most (a0 : Int) (b1 : Int) : Option R := call G 83 [(I a0), (I b1)] []
def en_spec_l1Most : Int → R := fun (a : Int) => (I a, [])
theorem inj_spec_l1Most : Inj en_spec_l1Most := fun a b h => by
  simpa [en_spec_l1Most, Prod.ext_iff, and_assoc] using h
noncomputable def cl_spec_l1Most {γ : Type} (a0 : Int) (b1 : Int) (k : Int → Option γ) : Option γ := cl en_spec_l1Most (call G) 83 [(I a0), (I b1)] [] k
theorem k_spec_l1Most {γ : Type} (a0 : Int) (b1 : Int) {v : Int} (h : A_spec_l1Most a0 b1 = some (en_spec_l1Most v)) (k : Int → Option γ) : cl_spec_l1Most a0 b1 k = k v := cl_eq inj_spec_l1Most h k
noncomputable def A_spec_l1Cur_pick (ml_0 : Dl1Cur) (n1 : Int) : Option R := call G 29 [(AV.ptr (Id.l 0) none 0), (I n1)] [(Id.l 0, bl (cl1Cur ml_0))]
def en_spec_l1Cur_pick : Int × Dl1Cur → R := fun (a : Int × Dl1Cur) => (I a.fst, [(Id.l 0, bl (cl1Cur a.snd))])
theorem inj_spec_l1Cur_pick : Inj en_spec_l1Cur_pick := fun a b h => by
  simpa [en_spec_l1Cur_pick, Prod.ext_iff, and_assoc] using h
noncomputable def cl_spec_l1Cur_pick {γ : Type} (ml_0 : Dl1Cur) (n1 : Int) (k : Int × Dl1Cur → Option γ) : Option γ := cl en_spec_l1Cur_pick (call G) 29 [(AV.ptr (Id.l 0) none 0), (I n1)] [(Id.l 0, bl (cl1Cur ml_0))] k
theorem ko_spec_l1Cur_pick {γ : Type} (ml_0 : Dl1Cur) (n1 : Int) {Q : Int × Dl1Cur → Prop} (h : ∃ v, A_spec_l1Cur_pick ml_0 n1 = some (en_spec_l1Cur_pick v) ∧ Q v) {k : Int × Dl1Cur → Option γ} {Q' : γ → Prop} (hk : ∀ v, Q v → OK (k v) Q') : OK (cl_spec_l1Cur_pick ml_0 n1 k) Q' := cl_ok inj_spec_l1Cur_pick h hk
noncomputable def A_impl_fits (b0 : DBoard) (s1 : DState) : Option R := call G 64 [(.agg (cBoard b0)), (.agg (cState s1))] []
def en_impl_fits : Bool → R := fun (a : Bool) => (B a, [])
theorem inj_impl_fits : Inj en_impl_fits := fun a b h => by
  simpa [en_impl_fits, Prod.ext_iff, and_assoc] using h
noncomputable def cl_impl_fits {γ : Type} (b0 : DBoard) (s1 : DState) (k : Bool → Option γ) : Option γ := cl en_impl_fits (call G) 64 [(.agg (cBoard b0)), (.agg (cState s1))] [] k
theorem k_impl_fits {γ : Type} (b0 : DBoard) (s1 : DState) {v : Bool} (h : A_impl_fits b0 s1 = some (en_impl_fits v)) (k : Bool → Option γ) : cl_impl_fits b0 s1 k = k v := cl_eq inj_impl_fits h k
noncomputable def A_impl_isIndex (i0 : Int) (many1 : Int) : Option R := call G 32 [(I i0), (I many1)] []
def en_impl_isIndex : Bool → R := fun (a : Bool) => (B a, [])
theorem inj_impl_isIndex : Inj en_impl_isIndex := fun a b h => by
  simpa [en_impl_isIndex, Prod.ext_iff, and_assoc] using h
noncomputable def cl_impl_isIndex {γ : Type} (i0 : Int) (many1 : Int) (k : Bool → Option γ) : Option γ := cl en_impl_isIndex (call G) 32 [(I i0), (I many1)] [] k
theorem k_impl_isIndex {γ : Type} (i0 : Int) (many1 : Int) {v : Bool} (h : A_impl_isIndex i0 many1 = some (en_impl_isIndex v)) (k : Bool → Option γ) : cl_impl_isIndex i0 many1 k = k v := cl_eq inj_impl_isIndex h k
noncomputable def A_spec_mHex (m0 : DMap) (i1 : Int) : Option R := call G 53 [(.agg (cMap m0)), (I i1)] []
def en_spec_mHex : DHex → R := fun (a : DHex) => (AV.agg (cHex a), [])
theorem inj_spec_mHex : Inj en_spec_mHex := fun a b h => by
  simpa [en_spec_mHex, Prod.ext_iff, and_assoc] using h
noncomputable def cl_spec_mHex {γ : Type} (m0 : DMap) (i1 : Int) (k : DHex → Option γ) : Option γ := cl en_spec_mHex (call G) 53 [(.agg (cMap m0)), (I i1)] [] k
theorem k_spec_mHex {γ : Type} (m0 : DMap) (i1 : Int) {v : DHex} (h : A_spec_mHex m0 i1 = some (en_spec_mHex v)) (k : DHex → Option γ) : cl_spec_mHex m0 i1 k = k v := cl_eq inj_spec_mHex h k
noncomputable def A_spec_hStep (h0 : DHex) (d1 : Int) : Option R := call G 52 [(.agg (cHex h0)), (I d1)] []
def en_spec_hStep : DHex → R := fun (a : DHex) => (AV.agg (cHex a), [])
theorem inj_spec_hStep : Inj en_spec_hStep := fun a b h => by
  simpa [en_spec_hStep, Prod.ext_iff, and_assoc] using h
noncomputable def cl_spec_hStep {γ : Type} (h0 : DHex) (d1 : Int) (k : DHex → Option γ) : Option γ := cl en_spec_hStep (call G) 52 [(.agg (cHex h0)), (I d1)] [] k
theorem k_spec_hStep {γ : Type} (h0 : DHex) (d1 : Int) {v : DHex} (h : A_spec_hStep h0 d1 = some (en_spec_hStep v)) (k : DHex → Option γ) : cl_spec_hStep h0 d1 k = k v := cl_eq inj_spec_hStep h k
noncomputable def A_spec_mIndex (m0 : DMap) (h1 : DHex) : Option R := call G 51 [(.agg (cMap m0)), (.agg (cHex h1))] []
def en_spec_mIndex : Int → R := fun (a : Int) => (I a, [])
theorem inj_spec_mIndex : Inj en_spec_mIndex := fun a b h => by
  simpa [en_spec_mIndex, Prod.ext_iff, and_assoc] using h
noncomputable def cl_spec_mIndex {γ : Type} (m0 : DMap) (h1 : DHex) (k : Int → Option γ) : Option γ := cl en_spec_mIndex (call G) 51 [(.agg (cMap m0)), (.agg (cHex h1))] [] k
theorem k_spec_mIndex {γ : Type} (m0 : DMap) (h1 : DHex) {v : Int} (h : A_spec_mIndex m0 h1 = some (en_spec_mIndex v)) (k : Int → Option γ) : cl_spec_mIndex m0 h1 k = k v := cl_eq inj_spec_mIndex h k
noncomputable def A_laws_qHas (l0 : List Int) (n1 : Int) : Option R := call G 14 [(slc cI l0), (I n1)] []
def en_laws_qHas : Bool → R := fun (a : Bool) => (B a, [])
theorem inj_laws_qHas : Inj en_laws_qHas := fun a b h => by
  simpa [en_laws_qHas, Prod.ext_iff, and_assoc] using h
noncomputable def cl_laws_qHas {γ : Type} (l0 : List Int) (n1 : Int) (k : Bool → Option γ) : Option γ := cl en_laws_qHas (call G) 14 [(slc cI l0), (I n1)] [] k
theorem k_laws_qHas {γ : Type} (l0 : List Int) (n1 : Int) {v : Bool} (h : A_laws_qHas l0 n1 = some (en_laws_qHas v)) (k : Bool → Option γ) : cl_laws_qHas l0 n1 k = k v := cl_eq inj_laws_qHas h k
noncomputable def A_impl_goodUnit (b0 : DBoard) (u1 : DUnit) : Option R := call G 100 [(.agg (cBoard b0)), (.agg (cUnit u1))] []
def en_impl_goodUnit : Bool → R := fun (a : Bool) => (B a, [])
theorem inj_impl_goodUnit : Inj en_impl_goodUnit := fun a b h => by
  simpa [en_impl_goodUnit, Prod.ext_iff, and_assoc] using h
noncomputable def cl_impl_goodUnit {γ : Type} (b0 : DBoard) (u1 : DUnit) (k : Bool → Option γ) : Option γ := cl en_impl_goodUnit (call G) 100 [(.agg (cBoard b0)), (.agg (cUnit u1))] [] k
theorem k_impl_goodUnit {γ : Type} (b0 : DBoard) (u1 : DUnit) {v : Bool} (h : A_impl_goodUnit b0 u1 = some (en_impl_goodUnit v)) (k : Bool → Option γ) : cl_impl_goodUnit b0 u1 k = k v := cl_eq inj_impl_goodUnit h k
noncomputable def A_spec_zExerts (b0 : DBoard) (s1 : DState) (u2 : Int) (i3 : Int) : Option R := call G 114 [(.agg (cBoard b0)), (.agg (cState s1)), (I u2), (I i3)] []
def en_spec_zExerts : Bool → R := fun (a : Bool) => (B a, [])
theorem inj_spec_zExerts : Inj en_spec_zExerts := fun a b h => by
  simpa [en_spec_zExerts, Prod.ext_iff, and_assoc] using h
noncomputable def cl_spec_zExerts {γ : Type} (b0 : DBoard) (s1 : DState) (u2 : Int) (i3 : Int) (k : Bool → Option γ) : Option γ := cl en_spec_zExerts (call G) 114 [(.agg (cBoard b0)), (.agg (cState s1)), (I u2), (I i3)] [] k
theorem k_spec_zExerts {γ : Type} (b0 : DBoard) (s1 : DState) (u2 : Int) (i3 : Int) {v : Bool} (h : A_spec_zExerts b0 s1 u2 i3 = some (en_spec_zExerts v)) (k : Bool → Option γ) : cl_spec_zExerts b0 s1 u2 i3 k = k v := cl_eq inj_spec_zExerts h k
noncomputable def A_spec_rGood (r0 : DRules) : Option R := call G 96 [(.agg (cRules r0))] []
def en_spec_rGood : Bool → R := fun (a : Bool) => (B a, [])
theorem inj_spec_rGood : Inj en_spec_rGood := fun a b h => by
  simpa [en_spec_rGood, Prod.ext_iff, and_assoc] using h
noncomputable def cl_spec_rGood {γ : Type} (r0 : DRules) (k : Bool → Option γ) : Option γ := cl en_spec_rGood (call G) 96 [(.agg (cRules r0))] [] k
theorem k_spec_rGood {γ : Type} (r0 : DRules) {v : Bool} (h : A_spec_rGood r0 = some (en_spec_rGood v)) (k : Bool → Option γ) : cl_spec_rGood r0 k = k v := cl_eq inj_spec_rGood h k
noncomputable def A_spec_sGood (b0 : DBoard) (s1 : DState) : Option R := call G 73 [(.agg (cBoard b0)), (.agg (cState s1))] []
def en_spec_sGood : Bool → R := fun (a : Bool) => (B a, [])
theorem inj_spec_sGood : Inj en_spec_sGood := fun a b h => by
  simpa [en_spec_sGood, Prod.ext_iff, and_assoc] using h
noncomputable def cl_spec_sGood {γ : Type} (b0 : DBoard) (s1 : DState) (k : Bool → Option γ) : Option γ := cl en_spec_sGood (call G) 73 [(.agg (cBoard b0)), (.agg (cState s1))] [] k
theorem k_spec_sGood {γ : Type} (b0 : DBoard) (s1 : DState) {v : Bool} (h : A_spec_sGood b0 s1 = some (en_spec_sGood v)) (k : Bool → Option γ) : cl_spec_sGood b0 s1 k = k v := cl_eq inj_spec_sGood h k
noncomputable def A_spec_l1Cur_next (ml_0 : Dl1Cur) : Option R := call G 60 [(AV.ptr (Id.l 0) none 0)] [(Id.l 0, bl (cl1Cur ml_0))]
noncomputable def A_spec_l1Cur_anyMap (ml_0 : Dl1Cur) : Option R := call G 79 [(AV.ptr (Id.l 0) none 0)] [(Id.l 0, bl (cl1Cur ml_0))]
noncomputable def A_spec_l1Cur_edges (ml_0 : Dl1Cur) (m1 : DMap) : Option R := call G 104 [(AV.ptr (Id.l 0) none 0), (.agg (cMap m1))] [(Id.l 0, bl (cl1Cur ml_0))]
noncomputable def A_impl_neighboursOn (m0 : DMap) (i1 : Int) : Option R := call G 20 [(.agg (cMap m0)), (I i1)] []
def en_impl_neighboursOn : List Int → R := fun (a : List Int) => (slc cI a, [])
theorem inj_impl_neighboursOn : Inj en_impl_neighboursOn := fun a b h => by
  simpa [en_impl_neighboursOn, Prod.ext_iff, and_assoc] using h
noncomputable def cl_impl_neighboursOn {γ : Type} (m0 : DMap) (i1 : Int) (k : List Int → Option γ) : Option γ := cl en_impl_neighboursOn (call G) 20 [(.agg (cMap m0)), (I i1)] [] k
theorem k_impl_neighboursOn {γ : Type} (m0 : DMap) (i1 : Int) {v : List Int} (h : A_impl_neighboursOn m0 i1 = some (en_impl_neighboursOn v)) (k : List Int → Option γ) : cl_impl_neighboursOn m0 i1 k = k v := cl_eq inj_impl_neighboursOn h k
noncomputable def A_spec_bGood (b0 : DBoard) : Option R := call G 80 [(.agg (cBoard b0))] []
def en_spec_bGood : Bool → R := fun (a : Bool) => (B a, [])
theorem inj_spec_bGood : Inj en_spec_bGood := fun a b h => by
  simpa [en_spec_bGood, Prod.ext_iff, and_assoc] using h
noncomputable def cl_spec_bGood {γ : Type} (b0 : DBoard) (k : Bool → Option γ) : Option γ := cl en_spec_bGood (call G) 80 [(.agg (cBoard b0))] [] k
theorem k_spec_bGood {γ : Type} (b0 : DBoard) {v : Bool} (h : A_spec_bGood b0 = some (en_spec_bGood v)) (k : Bool → Option γ) : cl_spec_bGood b0 k = k v := cl_eq inj_spec_bGood h k
noncomputable def A_impl_IsBoard (b0 : DBoard) : Option R := call G 84 [(.agg (cBoard b0))] []
def en_impl_IsBoard : Bool → R := fun (a : Bool) => (B a, [])
theorem inj_impl_IsBoard : Inj en_impl_IsBoard := fun a b h => by
  simpa [en_impl_IsBoard, Prod.ext_iff, and_assoc] using h
noncomputable def cl_impl_IsBoard {γ : Type} (b0 : DBoard) (k : Bool → Option γ) : Option γ := cl en_impl_IsBoard (call G) 84 [(.agg (cBoard b0))] [] k
theorem k_impl_IsBoard {γ : Type} (b0 : DBoard) {v : Bool} (h : A_impl_IsBoard b0 = some (en_impl_IsBoard v)) (k : Bool → Option γ) : cl_impl_IsBoard b0 k = k v := cl_eq inj_impl_IsBoard h k
noncomputable def A_spec_jSources (b0 : DBoard) (sources1 : List Int) : Option R := call G 48 [(.agg (cBoard b0)), (slc cI sources1)] []
def en_spec_jSources : Bool → R := fun (a : Bool) => (B a, [])
theorem inj_spec_jSources : Inj en_spec_jSources := fun a b h => by
  simpa [en_spec_jSources, Prod.ext_iff, and_assoc] using h
noncomputable def cl_spec_jSources {γ : Type} (b0 : DBoard) (sources1 : List Int) (k : Bool → Option γ) : Option γ := cl en_spec_jSources (call G) 48 [(.agg (cBoard b0)), (slc cI sources1)] [] k
theorem k_spec_jSources {γ : Type} (b0 : DBoard) (sources1 : List Int) {v : Bool} (h : A_spec_jSources b0 sources1 = some (en_spec_jSources v)) (k : Bool → Option γ) : cl_spec_jSources b0 sources1 k = k v := cl_eq inj_spec_jSources h k
noncomputable def A_impl_crossesFreely (m0 : DMap) (edge1 : Int) : Option R := call G 101 [(.agg (cMap m0)), (I edge1)] []
def en_impl_crossesFreely : Bool → R := fun (a : Bool) => (B a, [])
theorem inj_impl_crossesFreely : Inj en_impl_crossesFreely := fun a b h => by
  simpa [en_impl_crossesFreely, Prod.ext_iff, and_assoc] using h
noncomputable def cl_impl_crossesFreely {γ : Type} (m0 : DMap) (edge1 : Int) (k : Bool → Option γ) : Option γ := cl en_impl_crossesFreely (call G) 101 [(.agg (cMap m0)), (I edge1)] [] k
theorem k_impl_crossesFreely {γ : Type} (m0 : DMap) (edge1 : Int) {v : Bool} (h : A_impl_crossesFreely m0 edge1 = some (en_impl_crossesFreely v)) (k : Bool → Option γ) : cl_impl_crossesFreely m0 edge1 k = k v := cl_eq inj_impl_crossesFreely h k
noncomputable def A_spec_l1Cur_mapOf (ml_0 : Dl1Cur) (terrains1 : Int) : Option R := call G 94 [(AV.ptr (Id.l 0) none 0), (I terrains1)] [(Id.l 0, bl (cl1Cur ml_0))]
def en_spec_l1Cur_mapOf : DMap × Dl1Cur → R := fun (a : DMap × Dl1Cur) => (AV.agg [I a.fst.Width, I a.fst.Height, AV.own (Id.r 0 0) none 0 (List.length a.fst.Terrain) (List.length a.fst.Terrain), AV.own (Id.r 0 1) none 0 (List.length a.fst.Rivers) (List.length a.fst.Rivers), AV.own (Id.r 0 2) none 0 (List.length a.fst.Roads) (List.length a.fst.Roads)], [(Id.l 0, bl (cl1Cur a.snd)), (Id.r 0 0, some (rowB true false 1 cI a.fst.Terrain)), (Id.r 0 1, some (rowB true false 1 cI a.fst.Rivers)), (Id.r 0 2, some (rowB true false 1 cI a.fst.Roads))])
theorem inj_spec_l1Cur_mapOf : Inj en_spec_l1Cur_mapOf := fun a b h => by
  first | (simpa [en_spec_l1Cur_mapOf, Prod.ext_iff, and_assoc] using h) | (obtain ⟨⟨_, _, _, _, _⟩, _⟩ := a; obtain ⟨⟨_, _, _, _, _⟩, _⟩ := b; simp [en_spec_l1Cur_mapOf] at h ⊢; simp_all; done) | (obtain ⟨⟨_, _, _, _, _⟩, _⟩ := a; obtain ⟨⟨_, _, _, _, _⟩, _⟩ := b; simp [en_spec_l1Cur_mapOf] at h; obtain ⟨h1, h2⟩ := h; have h3 := List.append_inj h2.2.2 h1.2.1.1; simp_all) | (obtain ⟨⟨_, _, _, _, _⟩, _⟩ := a; obtain ⟨⟨_, _, _, _, _⟩, _⟩ := b; simp [en_spec_l1Cur_mapOf] at h; obtain ⟨h1, h2⟩ := h; have h3 := List.append_inj h2.2 h1.1; simp_all)
noncomputable def cl_spec_l1Cur_mapOf {γ : Type} (ml_0 : Dl1Cur) (terrains1 : Int) (k : DMap × Dl1Cur → Option γ) : Option γ := cl en_spec_l1Cur_mapOf (call G) 94 [(AV.ptr (Id.l 0) none 0), (I terrains1)] [(Id.l 0, bl (cl1Cur ml_0))] k
theorem ko_spec_l1Cur_mapOf {γ : Type} (ml_0 : Dl1Cur) (terrains1 : Int) {Q : DMap × Dl1Cur → Prop} (h : ∃ v, A_spec_l1Cur_mapOf ml_0 terrains1 = some (en_spec_l1Cur_mapOf v) ∧ Q v) {k : DMap × Dl1Cur → Option γ} {Q' : γ → Prop} (hk : ∀ v, Q v → OK (k v) Q') : OK (cl_spec_l1Cur_mapOf ml_0 terrains1 k) Q' := cl_ok inj_spec_l1Cur_mapOf h hk
noncomputable def A_spec_mGood (m0 : DMap) : Option R := call G 56 [(.agg (cMap m0))] []
def en_spec_mGood : Bool → R := fun (a : Bool) => (B a, [])
theorem inj_spec_mGood : Inj en_spec_mGood := fun a b h => by
  simpa [en_spec_mGood, Prod.ext_iff, and_assoc] using h
noncomputable def cl_spec_mGood {γ : Type} (m0 : DMap) (k : Bool → Option γ) : Option γ := cl en_spec_mGood (call G) 56 [(.agg (cMap m0))] [] k
theorem k_spec_mGood {γ : Type} (m0 : DMap) {v : Bool} (h : A_spec_mGood m0 = some (en_spec_mGood v)) (k : Bool → Option γ) : cl_spec_mGood m0 k = k v := cl_eq inj_spec_mGood h k
noncomputable def A_spec_l1All (l0 : List Int) (lo1 : Int) (hi2 : Int) : Option R := call G 36 [(slc cI l0), (I lo1), (I hi2)] []
def en_spec_l1All : Bool → R := fun (a : Bool) => (B a, [])
theorem inj_spec_l1All : Inj en_spec_l1All := fun a b h => by
  simpa [en_spec_l1All, Prod.ext_iff, and_assoc] using h
noncomputable def cl_spec_l1All {γ : Type} (l0 : List Int) (lo1 : Int) (hi2 : Int) (k : Bool → Option γ) : Option γ := cl en_spec_l1All (call G) 36 [(slc cI l0), (I lo1), (I hi2)] [] k
theorem k_spec_l1All {γ : Type} (l0 : List Int) (lo1 : Int) (hi2 : Int) {v : Bool} (h : A_spec_l1All l0 lo1 hi2 = some (en_spec_l1All v)) (k : Bool → Option γ) : cl_spec_l1All l0 lo1 hi2 k = k v := cl_eq inj_spec_l1All h k
noncomputable def A_impl_IsRules (r0 : DRules) : Option R := call G 97 [(.agg (cRules r0))] []
def en_impl_IsRules : Bool → R := fun (a : Bool) => (B a, [])
theorem inj_impl_IsRules : Inj en_impl_IsRules := fun a b h => by
  simpa [en_impl_IsRules, Prod.ext_iff, and_assoc] using h
noncomputable def cl_impl_IsRules {γ : Type} (r0 : DRules) (k : Bool → Option γ) : Option γ := cl en_impl_IsRules (call G) 97 [(.agg (cRules r0))] [] k
theorem k_impl_IsRules {γ : Type} (r0 : DRules) {v : Bool} (h : A_impl_IsRules r0 = some (en_impl_IsRules v)) (k : Bool → Option γ) : cl_impl_IsRules r0 k = k v := cl_eq inj_impl_IsRules h k
noncomputable def A_impl_IsMap (m0 : DMap) : Option R := call G 98 [(.agg (cMap m0))] []
def en_impl_IsMap : Bool → R := fun (a : Bool) => (B a, [])
theorem inj_impl_IsMap : Inj en_impl_IsMap := fun a b h => by
  simpa [en_impl_IsMap, Prod.ext_iff, and_assoc] using h
noncomputable def cl_impl_IsMap {γ : Type} (m0 : DMap) (k : Bool → Option γ) : Option γ := cl en_impl_IsMap (call G) 98 [(.agg (cMap m0))] [] k
theorem k_impl_IsMap {γ : Type} (m0 : DMap) {v : Bool} (h : A_impl_IsMap m0 = some (en_impl_IsMap v)) (k : Bool → Option γ) : cl_impl_IsMap m0 k = k v := cl_eq inj_impl_IsMap h k
noncomputable def A_slices_ContainsFunc_int_of_impl_IsBoard_1 (ml_0 : DBoard) (s0 : List Int) : Option R := call G 66 [(slc cI s0), (.clo 99 [(AV.ptr (Id.l 0) none 0)])] [(Id.l 0, bl (cBoard ml_0))]
def en_slices_ContainsFunc_int_of_impl_IsBoard_1 : Bool × DBoard → R := fun (a : Bool × DBoard) => (B a.fst, [(Id.l 0, bl (cBoard a.snd))])
theorem inj_slices_ContainsFunc_int_of_impl_IsBoard_1 : Inj en_slices_ContainsFunc_int_of_impl_IsBoard_1 := fun a b h => by
  simpa [en_slices_ContainsFunc_int_of_impl_IsBoard_1, Prod.ext_iff, and_assoc] using h
noncomputable def cl_slices_ContainsFunc_int_of_impl_IsBoard_1 {γ : Type} (ml_0 : DBoard) (s0 : List Int) (k : Bool × DBoard → Option γ) : Option γ := cl en_slices_ContainsFunc_int_of_impl_IsBoard_1 (call G) 66 [(slc cI s0), (.clo 99 [(AV.ptr (Id.l 0) none 0)])] [(Id.l 0, bl (cBoard ml_0))] k
theorem k_slices_ContainsFunc_int_of_impl_IsBoard_1 {γ : Type} (ml_0 : DBoard) (s0 : List Int) {v : Bool × DBoard} (h : A_slices_ContainsFunc_int_of_impl_IsBoard_1 ml_0 s0 = some (en_slices_ContainsFunc_int_of_impl_IsBoard_1 v)) (k : Bool × DBoard → Option γ) : cl_slices_ContainsFunc_int_of_impl_IsBoard_1 ml_0 s0 k = k v := cl_eq inj_slices_ContainsFunc_int_of_impl_IsBoard_1 h k
noncomputable def A_slices_Contains_int (s0 : List Int) (v1 : Int) : Option R := call G 31 [(slc cI s0), (I v1)] []
def en_slices_Contains_int : Bool → R := fun (a : Bool) => (B a, [])
theorem inj_slices_Contains_int : Inj en_slices_Contains_int := fun a b h => by
  simpa [en_slices_Contains_int, Prod.ext_iff, and_assoc] using h
noncomputable def cl_slices_Contains_int {γ : Type} (s0 : List Int) (v1 : Int) (k : Bool → Option γ) : Option γ := cl en_slices_Contains_int (call G) 31 [(slc cI s0), (I v1)] [] k
theorem k_slices_Contains_int {γ : Type} (s0 : List Int) (v1 : Int) {v : Bool} (h : A_slices_Contains_int s0 v1 = some (en_slices_Contains_int v)) (k : Bool → Option γ) : cl_slices_Contains_int s0 v1 k = k v := cl_eq inj_slices_Contains_int h k
noncomputable def A_spec_rName (s0 : ByteArray) : Option R := call G 105 [(S s0)] []
def en_spec_rName : Bool → R := fun (a : Bool) => (B a, [])
theorem inj_spec_rName : Inj en_spec_rName := fun a b h => by
  simpa [en_spec_rName, Prod.ext_iff, and_assoc] using h
noncomputable def cl_spec_rName {γ : Type} (s0 : ByteArray) (k : Bool → Option γ) : Option γ := cl en_spec_rName (call G) 105 [(S s0)] [] k
theorem k_spec_rName {γ : Type} (s0 : ByteArray) {v : Bool} (h : A_spec_rName s0 = some (en_spec_rName v)) (k : Bool → Option γ) : cl_spec_rName s0 k = k v := cl_eq inj_spec_rName h k
noncomputable def A_spec_rTerrain (l0 : List DTerrain) (name1 : ByteArray) : Option R := call G 106 [(slc cTerrain l0), (S name1)] []
def en_spec_rTerrain : Int → R := fun (a : Int) => (I a, [])
theorem inj_spec_rTerrain : Inj en_spec_rTerrain := fun a b h => by
  simpa [en_spec_rTerrain, Prod.ext_iff, and_assoc] using h
noncomputable def cl_spec_rTerrain {γ : Type} (l0 : List DTerrain) (name1 : ByteArray) (k : Int → Option γ) : Option γ := cl en_spec_rTerrain (call G) 106 [(slc cTerrain l0), (S name1)] [] k
theorem k_spec_rTerrain {γ : Type} (l0 : List DTerrain) (name1 : ByteArray) {v : Int} (h : A_spec_rTerrain l0 name1 = some (en_spec_rTerrain v)) (k : Int → Option γ) : cl_spec_rTerrain l0 name1 k = k v := cl_eq inj_spec_rTerrain h k
noncomputable def A_spec_mEdge (m0 : DMap) (i1 : Int) (d2 : Int) : Option R := call G 115 [(.agg (cMap m0)), (I i1), (I d2)] []
def en_spec_mEdge : Int → R := fun (a : Int) => (I a, [])
theorem inj_spec_mEdge : Inj en_spec_mEdge := fun a b h => by
  simpa [en_spec_mEdge, Prod.ext_iff, and_assoc] using h
noncomputable def cl_spec_mEdge {γ : Type} (m0 : DMap) (i1 : Int) (d2 : Int) (k : Int → Option γ) : Option γ := cl en_spec_mEdge (call G) 115 [(.agg (cMap m0)), (I i1), (I d2)] [] k
theorem k_spec_mEdge {γ : Type} (m0 : DMap) (i1 : Int) (d2 : Int) {v : Int} (h : A_spec_mEdge m0 i1 d2 = some (en_spec_mEdge v)) (k : Int → Option γ) : cl_spec_mEdge m0 i1 d2 k = k v := cl_eq inj_spec_mEdge h k
noncomputable def A_spec_l1Put (ml_0 : List Int) (l0o : Nat) (l0n : Nat) (l0k : Nat) (n1 : Int) : Option R := call G 57 [(.own (Id.l 0) none l0o l0n l0k), (I n1)] [(Id.l 0, some (rowB false false 1 cI ml_0))]
def en_spec_l1Put : Nat × List Int → R := fun (a : Nat × List Int) => (AV.own (Id.l 0) none 0 a.fst a.fst, [(Id.l 0, some (rowB false false 1 cI a.snd))])
theorem inj_spec_l1Put : Inj en_spec_l1Put := fun a b h => by
  simpa [en_spec_l1Put, Prod.ext_iff, and_assoc] using h
def en2_spec_l1Put : List Int × List Int → R := fun (a : List Int × List Int) => (AV.own (Id.r 0 0) none 0 (List.length a.fst) (List.length a.fst), [(Id.l 0, some (rowB false false 1 cI a.snd)), (Id.r 0 0, some (rowB true false 1 cI a.fst))])
theorem inj2_spec_l1Put : Inj en2_spec_l1Put := fun a b h => by
  first | (simpa [en2_spec_l1Put, Prod.ext_iff, and_assoc] using h) | (obtain ⟨_, _⟩ := a; obtain ⟨_, _⟩ := b; simp [en2_spec_l1Put] at h ⊢; simp_all; done) | (obtain ⟨_, _⟩ := a; obtain ⟨_, _⟩ := b; simp [en2_spec_l1Put] at h; obtain ⟨h1, h2⟩ := h; have h3 := List.append_inj h2.2.2 h1.2.1.1; simp_all) | (obtain ⟨_, _⟩ := a; obtain ⟨_, _⟩ := b; simp [en2_spec_l1Put] at h; obtain ⟨h1, h2⟩ := h; have h3 := List.append_inj h2.2 h1.1; simp_all)
noncomputable def cl_spec_l1Put {γ : Type} (ml_0 : List Int) (l0o : Nat) (l0n : Nat) (l0k : Nat) (n1 : Int) (k : Nat × List Int → Option γ) (k' : List Int × List Int → Option γ) : Option γ := cl2 en_spec_l1Put en2_spec_l1Put (call G) 57 [(.own (Id.l 0) none l0o l0n l0k), (I n1)] [(Id.l 0, some (rowB false false 1 cI ml_0))] k k'
theorem k_spec_l1Put {γ : Type} (ml_0 : List Int) (l0o : Nat) (l0n : Nat) (l0k : Nat) (n1 : Int) {v : Nat × List Int} (h : A_spec_l1Put ml_0 l0o l0n l0k n1 = some (en_spec_l1Put v)) (k : Nat × List Int → Option γ) (k' : List Int × List Int → Option γ) : cl_spec_l1Put ml_0 l0o l0n l0k n1 k k' = k v := cl2_a inj_spec_l1Put h k k'
theorem k2_spec_l1Put {γ : Type} (ml_0 : List Int) (l0o : Nat) (l0n : Nat) (l0k : Nat) (n1 : Int) {v : List Int × List Int} (h : A_spec_l1Put ml_0 l0o l0n l0k n1 = some (en2_spec_l1Put v)) (k : Nat × List Int → Option γ) (k' : List Int × List Int → Option γ) : cl_spec_l1Put ml_0 l0o l0n l0k n1 k k' = k' v := cl2_b inj2_spec_l1Put (fun a b e => by simp [en_spec_l1Put, en2_spec_l1Put] at e) h k k'
noncomputable def A_slices_IndexFunc_int_of_impl_IsBoard_1 (ml_0 : DBoard) (s0 : List Int) : Option R := call G 86 [(slc cI s0), (.clo 99 [(AV.ptr (Id.l 0) none 0)])] [(Id.l 0, bl (cBoard ml_0))]
def en_slices_IndexFunc_int_of_impl_IsBoard_1 : Int × DBoard → R := fun (a : Int × DBoard) => (I a.fst, [(Id.l 0, bl (cBoard a.snd))])
theorem inj_slices_IndexFunc_int_of_impl_IsBoard_1 : Inj en_slices_IndexFunc_int_of_impl_IsBoard_1 := fun a b h => by
  simpa [en_slices_IndexFunc_int_of_impl_IsBoard_1, Prod.ext_iff, and_assoc] using h
noncomputable def cl_slices_IndexFunc_int_of_impl_IsBoard_1 {γ : Type} (ml_0 : DBoard) (s0 : List Int) (k : Int × DBoard → Option γ) : Option γ := cl en_slices_IndexFunc_int_of_impl_IsBoard_1 (call G) 86 [(slc cI s0), (.clo 99 [(AV.ptr (Id.l 0) none 0)])] [(Id.l 0, bl (cBoard ml_0))] k
theorem k_slices_IndexFunc_int_of_impl_IsBoard_1 {γ : Type} (ml_0 : DBoard) (s0 : List Int) {v : Int × DBoard} (h : A_slices_IndexFunc_int_of_impl_IsBoard_1 ml_0 s0 = some (en_slices_IndexFunc_int_of_impl_IsBoard_1 v)) (k : Int × DBoard → Option γ) : cl_slices_IndexFunc_int_of_impl_IsBoard_1 ml_0 s0 k = k v := cl_eq inj_slices_IndexFunc_int_of_impl_IsBoard_1 h k
noncomputable def A_slices_Index_int (s0 : List Int) (v1 : Int) : Option R := call G 61 [(slc cI s0), (I v1)] []
def en_slices_Index_int : Int → R := fun (a : Int) => (I a, [])
theorem inj_slices_Index_int : Inj en_slices_Index_int := fun a b h => by
  simpa [en_slices_Index_int, Prod.ext_iff, and_assoc] using h
noncomputable def cl_slices_Index_int {γ : Type} (s0 : List Int) (v1 : Int) (k : Int → Option γ) : Option γ := cl en_slices_Index_int (call G) 61 [(slc cI s0), (I v1)] [] k
theorem k_slices_Index_int {γ : Type} (s0 : List Int) (v1 : Int) {v : Int} (h : A_slices_Index_int s0 v1 = some (en_slices_Index_int v)) (k : Int → Option γ) : cl_slices_Index_int s0 v1 k = k v := cl_eq inj_slices_Index_int h k
noncomputable def A_spec_rKind (l0 : List DKind) (name1 : ByteArray) : Option R := call G 107 [(slc cKind l0), (S name1)] []
def en_spec_rKind : Int → R := fun (a : Int) => (I a, [])
theorem inj_spec_rKind : Inj en_spec_rKind := fun a b h => by
  simpa [en_spec_rKind, Prod.ext_iff, and_assoc] using h
noncomputable def cl_spec_rKind {γ : Type} (l0 : List DKind) (name1 : ByteArray) (k : Int → Option γ) : Option γ := cl en_spec_rKind (call G) 107 [(slc cKind l0), (S name1)] [] k
theorem k_spec_rKind {γ : Type} (l0 : List DKind) (name1 : ByteArray) {v : Int} (h : A_spec_rKind l0 name1 = some (en_spec_rKind v)) (k : Int → Option γ) : cl_spec_rKind l0 name1 k = k v := cl_eq inj_spec_rKind h k
noncomputable def A_spec_sAt (s0 : DState) (i1 : Int) (side2 : Int) : Option R := call G 89 [(.agg (cState s0)), (I i1), (I side2)] []
def en_spec_sAt : List Int → R := fun (a : List Int) => (slc cI a, [])
theorem inj_spec_sAt : Inj en_spec_sAt := fun a b h => by
  simpa [en_spec_sAt, Prod.ext_iff, and_assoc] using h
noncomputable def cl_spec_sAt {γ : Type} (s0 : DState) (i1 : Int) (side2 : Int) (k : List Int → Option γ) : Option γ := cl en_spec_sAt (call G) 89 [(.agg (cState s0)), (I i1), (I side2)] [] k
theorem k_spec_sAt {γ : Type} (s0 : DState) (i1 : Int) (side2 : Int) {v : List Int} (h : A_spec_sAt s0 i1 side2 = some (en_spec_sAt v)) (k : List Int → Option γ) : cl_spec_sAt s0 i1 side2 k = k v := cl_eq inj_spec_sAt h k
noncomputable def A_impl_IsBoard_1 (ml_0 : DBoard) (t0 : Int) : Option R := call G 99 [(I t0), (AV.ptr (Id.l 0) none 0)] [(Id.l 0, bl (cBoard ml_0))]
def en_impl_IsBoard_1 : Bool × DBoard → R := fun (a : Bool × DBoard) => (B a.fst, [(Id.l 0, bl (cBoard a.snd))])
theorem inj_impl_IsBoard_1 : Inj en_impl_IsBoard_1 := fun a b h => by
  simpa [en_impl_IsBoard_1, Prod.ext_iff, and_assoc] using h
noncomputable def cl_impl_IsBoard_1 {γ : Type} (ml_0 : DBoard) (t0 : Int) (k : Bool × DBoard → Option γ) : Option γ := cl en_impl_IsBoard_1 (call G) 99 [(I t0), (AV.ptr (Id.l 0) none 0)] [(Id.l 0, bl (cBoard ml_0))] k
theorem k_impl_IsBoard_1 {γ : Type} (ml_0 : DBoard) (t0 : Int) {v : Bool × DBoard} (h : A_impl_IsBoard_1 ml_0 t0 = some (en_impl_IsBoard_1 v)) (k : Bool × DBoard → Option γ) : cl_impl_IsBoard_1 ml_0 t0 k = k v := cl_eq inj_impl_IsBoard_1 h k
noncomputable def A_spec_l1Cur_state (ml_0 : Dl1Cur) (b1 : DBoard) : Option R := call G 81 [(AV.ptr (Id.l 0) none 0), (.agg (cBoard b1))] [(Id.l 0, bl (cl1Cur ml_0))]
noncomputable def A_spec_mEdges (m0 : DMap) (l1 : List Int) : Option R := call G 82 [(.agg (cMap m0)), (slc cI l1)] []
def en_spec_mEdges : Bool → R := fun (a : Bool) => (B a, [])
theorem inj_spec_mEdges : Inj en_spec_mEdges := fun a b h => by
  simpa [en_spec_mEdges, Prod.ext_iff, and_assoc] using h
noncomputable def cl_spec_mEdges {γ : Type} (m0 : DMap) (l1 : List Int) (k : Bool → Option γ) : Option γ := cl en_spec_mEdges (call G) 82 [(.agg (cMap m0)), (slc cI l1)] [] k
theorem k_spec_mEdges {γ : Type} (m0 : DMap) (l1 : List Int) {v : Bool} (h : A_spec_mEdges m0 l1 = some (en_spec_mEdges v)) (k : Bool → Option γ) : cl_spec_mEdges m0 l1 k = k v := cl_eq inj_spec_mEdges h k
noncomputable def A_spec_DrawInSupply (code0 : KSl) : Option R := call G 15 [(Kn code0)] []
def en_spec_DrawInSupply : DBoard × DState × Int × List Int → R := fun (a : DBoard × DState × Int × List Int) => (AV.tup [AV.agg (cBoard a.fst), AV.agg (cState a.snd.fst), I a.snd.snd.fst, slc cI a.snd.snd.snd], [])
theorem inj_spec_DrawInSupply : Inj en_spec_DrawInSupply := fun a b h => by
  first | (simpa [en_spec_DrawInSupply, Prod.ext_iff, and_assoc] using h) | (obtain ⟨⟨⟨_, _, _, _, _, _, _⟩, ⟨_, _, _, _, _⟩⟩, ⟨⟨_, _, _⟩, ⟨_, _⟩⟩⟩ := a; obtain ⟨⟨⟨_, _, _, _, _, _, _⟩, ⟨_, _, _, _, _⟩⟩, ⟨⟨_, _, _⟩, ⟨_, _⟩⟩⟩ := b; simp [en_spec_DrawInSupply] at h ⊢; simp_all; done) | (obtain ⟨⟨⟨_, _, _, _, _, _, _⟩, ⟨_, _, _, _, _⟩⟩, ⟨⟨_, _, _⟩, ⟨_, _⟩⟩⟩ := a; obtain ⟨⟨⟨_, _, _, _, _, _, _⟩, ⟨_, _, _, _, _⟩⟩, ⟨⟨_, _, _⟩, ⟨_, _⟩⟩⟩ := b; simp [en_spec_DrawInSupply] at h; obtain ⟨h1, h2⟩ := h; have h3 := List.append_inj h2.2.2 h1.2.1.1; simp_all) | (obtain ⟨⟨⟨_, _, _, _, _, _, _⟩, ⟨_, _, _, _, _⟩⟩, ⟨⟨_, _, _⟩, ⟨_, _⟩⟩⟩ := a; obtain ⟨⟨⟨_, _, _, _, _, _, _⟩, ⟨_, _, _, _, _⟩⟩, ⟨⟨_, _, _⟩, ⟨_, _⟩⟩⟩ := b; simp [en_spec_DrawInSupply] at h; obtain ⟨h1, h2⟩ := h; have h3 := List.append_inj h2.2 h1.1; simp_all)
noncomputable def cl_spec_DrawInSupply {γ : Type} (code0 : KSl) (k : DBoard × DState × Int × List Int → Option γ) : Option γ := cl en_spec_DrawInSupply (call G) 15 [(Kn code0)] [] k
theorem ko_spec_DrawInSupply {γ : Type} (code0 : KSl) {Q : DBoard × DState × Int × List Int → Prop} (h : ∃ v, A_spec_DrawInSupply code0 = some (en_spec_DrawInSupply v) ∧ Q v) {k : DBoard × DState × Int × List Int → Option γ} {Q' : γ → Prop} (hk : ∀ v, Q v → OK (k v) Q') : OK (cl_spec_DrawInSupply code0 k) Q' := cl_ok inj_spec_DrawInSupply h hk
noncomputable def A_impl_supplyWay (b0 : DBoard) (u1 : DUnit) (open2 : List Bool) (sources3 : List Int) : Option R := call G 41 [(.agg (cBoard b0)), (.agg (cUnit u1)), (slc cB open2), (slc cI sources3)] []
def en_impl_supplyWay : Int → R := fun (a : Int) => (I a, [])
theorem inj_impl_supplyWay : Inj en_impl_supplyWay := fun a b h => by
  simpa [en_impl_supplyWay, Prod.ext_iff, and_assoc] using h
noncomputable def cl_impl_supplyWay {γ : Type} (b0 : DBoard) (u1 : DUnit) (open2 : List Bool) (sources3 : List Int) (k : Int → Option γ) : Option γ := cl en_impl_supplyWay (call G) 41 [(.agg (cBoard b0)), (.agg (cUnit u1)), (slc cB open2), (slc cI sources3)] [] k
theorem k_impl_supplyWay {γ : Type} (b0 : DBoard) (u1 : DUnit) (open2 : List Bool) (sources3 : List Int) {v : Int} (h : A_impl_supplyWay b0 u1 open2 sources3 = some (en_impl_supplyWay v)) (k : Int → Option γ) : cl_impl_supplyWay b0 u1 open2 sources3 k = k v := cl_eq inj_impl_supplyWay h k
noncomputable def A_impl_areSources (b0 : DBoard) (list1 : List Int) : Option R := call G 43 [(.agg (cBoard b0)), (slc cI list1)] []
def en_impl_areSources : Bool → R := fun (a : Bool) => (B a, [])
theorem inj_impl_areSources : Inj en_impl_areSources := fun a b h => by
  simpa [en_impl_areSources, Prod.ext_iff, and_assoc] using h
noncomputable def cl_impl_areSources {γ : Type} (b0 : DBoard) (list1 : List Int) (k : Bool → Option γ) : Option γ := cl en_impl_areSources (call G) 43 [(.agg (cBoard b0)), (slc cI list1)] [] k
theorem k_impl_areSources {γ : Type} (b0 : DBoard) (list1 : List Int) {v : Bool} (h : A_impl_areSources b0 list1 = some (en_impl_areSources v)) (k : Bool → Option γ) : cl_impl_areSources b0 list1 k = k v := cl_eq inj_impl_areSources h k
noncomputable def A_impl_isSupply (b0 : DBoard) (s1 : DState) (u2 : Int) (sources3 : List Int) : Option R := call G 16 [(.agg (cBoard b0)), (.agg (cState s1)), (I u2), (slc cI sources3)] []
def en_impl_isSupply : Bool → R := fun (a : Bool) => (B a, [])
theorem inj_impl_isSupply : Inj en_impl_isSupply := fun a b h => by
  simpa [en_impl_isSupply, Prod.ext_iff, and_assoc] using h
noncomputable def cl_impl_isSupply {γ : Type} (b0 : DBoard) (s1 : DState) (u2 : Int) (sources3 : List Int) (k : Bool → Option γ) : Option γ := cl en_impl_isSupply (call G) 16 [(.agg (cBoard b0)), (.agg (cState s1)), (I u2), (slc cI sources3)] [] k
theorem k_impl_isSupply {γ : Type} (b0 : DBoard) (s1 : DState) (u2 : Int) (sources3 : List Int) {v : Bool} (h : A_impl_isSupply b0 s1 u2 sources3 = some (en_impl_isSupply v)) (k : Bool → Option γ) : cl_impl_isSupply b0 s1 u2 sources3 k = k v := cl_eq inj_impl_isSupply h k
noncomputable def A_impl_hexOf (m0 : DMap) (i1 : Int) : Option R := call G 35 [(.agg (cMap m0)), (I i1)] []
def en_impl_hexOf : DHex → R := fun (a : DHex) => (AV.agg (cHex a), [])
theorem inj_impl_hexOf : Inj en_impl_hexOf := fun a b h => by
  simpa [en_impl_hexOf, Prod.ext_iff, and_assoc] using h
noncomputable def cl_impl_hexOf {γ : Type} (m0 : DMap) (i1 : Int) (k : DHex → Option γ) : Option γ := cl en_impl_hexOf (call G) 35 [(.agg (cMap m0)), (I i1)] [] k
theorem k_impl_hexOf {γ : Type} (m0 : DMap) (i1 : Int) {v : DHex} (h : A_impl_hexOf m0 i1 = some (en_impl_hexOf v)) (k : DHex → Option γ) : cl_impl_hexOf m0 i1 k = k v := cl_eq inj_impl_hexOf h k
noncomputable def A_impl_enterCost (b0 : DBoard) (kind1 : Int) (i2 : Int) : Option R := call G 44 [(.agg (cBoard b0)), (I kind1), (I i2)] []
def en_impl_enterCost : Int → R := fun (a : Int) => (I a, [])
theorem inj_impl_enterCost : Inj en_impl_enterCost := fun a b h => by
  simpa [en_impl_enterCost, Prod.ext_iff, and_assoc] using h
noncomputable def cl_impl_enterCost {γ : Type} (b0 : DBoard) (kind1 : Int) (i2 : Int) (k : Int → Option γ) : Option γ := cl en_impl_enterCost (call G) 44 [(.agg (cBoard b0)), (I kind1), (I i2)] [] k
theorem k_impl_enterCost {γ : Type} (b0 : DBoard) (kind1 : Int) (i2 : Int) {v : Int} (h : A_impl_enterCost b0 kind1 i2 = some (en_impl_enterCost v)) (k : Int → Option γ) : cl_impl_enterCost b0 kind1 i2 k = k v := cl_eq inj_impl_enterCost h k
noncomputable def A_impl_absOf (n0 : Int) : Option R := call G 63 [(I n0)] []
def en_impl_absOf : Int → R := fun (a : Int) => (I a, [])
theorem inj_impl_absOf : Inj en_impl_absOf := fun a b h => by
  first | (simpa [en_impl_absOf, Prod.ext_iff, and_assoc] using h) | (obtain _ := a; obtain _ := b; simp [en_impl_absOf] at h ⊢; simp_all; done) | (obtain _ := a; obtain _ := b; simp [en_impl_absOf] at h; obtain ⟨h1, h2⟩ := h; have h3 := List.append_inj h2.2.2 h1.2.1.1; simp_all) | (obtain _ := a; obtain _ := b; simp [en_impl_absOf] at h; obtain ⟨h1, h2⟩ := h; have h3 := List.append_inj h2.2 h1.1; simp_all)
noncomputable def cl_impl_absOf {γ : Type} (n0 : Int) (k : Int → Option γ) : Option γ := cl en_impl_absOf (call G) 63 [(I n0)] [] k
theorem k_impl_absOf {γ : Type} (n0 : Int) {v : Int} (h : A_impl_absOf n0 = some (en_impl_absOf v)) (k : Int → Option γ) : cl_impl_absOf n0 k = k v := cl_eq inj_impl_absOf h k
noncomputable def A_impl_wayOf (b0 : DBoard) (s1 : DState) (u2 : DUnit) (sources3 : List Int) : Option R := call G 17 [(.agg (cBoard b0)), (.agg (cState s1)), (.agg (cUnit u2)), (slc cI sources3)] []
def en_impl_wayOf : Int → R := fun (a : Int) => (I a, [])
theorem inj_impl_wayOf : Inj en_impl_wayOf := fun a b h => by
  simpa [en_impl_wayOf, Prod.ext_iff, and_assoc] using h
noncomputable def cl_impl_wayOf {γ : Type} (b0 : DBoard) (s1 : DState) (u2 : DUnit) (sources3 : List Int) (k : Int → Option γ) : Option γ := cl en_impl_wayOf (call G) 17 [(.agg (cBoard b0)), (.agg (cState s1)), (.agg (cUnit u2)), (slc cI sources3)] [] k
theorem k_impl_wayOf {γ : Type} (b0 : DBoard) (s1 : DState) (u2 : DUnit) (sources3 : List Int) {v : Int} (h : A_impl_wayOf b0 s1 u2 sources3 = some (en_impl_wayOf v)) (k : Int → Option γ) : cl_impl_wayOf b0 s1 u2 sources3 k = k v := cl_eq inj_impl_wayOf h k
noncomputable def A_impl_openFor (b0 : DBoard) (s1 : DState) (side2 : Int) (kind3 : Int) : Option R := call G 19 [(.agg (cBoard b0)), (.agg (cState s1)), (I side2), (I kind3)] []
def en_impl_openFor : List Bool → R := fun (a : List Bool) => (AV.own (Id.r 0 0) none 0 (List.length a) (List.length a), [(Id.r 0 0, some (rowB true false 1 cB a))])
theorem inj_impl_openFor : Inj en_impl_openFor := fun a b h => by
  first | (simpa [en_impl_openFor, Prod.ext_iff, and_assoc] using h) | (obtain _ := a; obtain _ := b; simp [en_impl_openFor] at h ⊢; simp_all; done) | (obtain _ := a; obtain _ := b; simp [en_impl_openFor] at h; obtain ⟨h1, h2⟩ := h; have h3 := List.append_inj h2.2.2 h1.2.1.1; simp_all) | (obtain _ := a; obtain _ := b; simp [en_impl_openFor] at h; obtain ⟨h1, h2⟩ := h; have h3 := List.append_inj h2.2 h1.1; simp_all)
noncomputable def cl_impl_openFor {γ : Type} (b0 : DBoard) (s1 : DState) (side2 : Int) (kind3 : Int) (k : List Bool → Option γ) : Option γ := cl en_impl_openFor (call G) 19 [(.agg (cBoard b0)), (.agg (cState s1)), (I side2), (I kind3)] [] k
theorem k_impl_openFor {γ : Type} (b0 : DBoard) (s1 : DState) (side2 : Int) (kind3 : Int) {v : List Bool} (h : A_impl_openFor b0 s1 side2 kind3 = some (en_impl_openFor v)) (k : List Bool → Option γ) : cl_impl_openFor b0 s1 side2 kind3 k = k v := cl_eq inj_impl_openFor h k
noncomputable def A_impl_spread (m0 : DMap) (open1 : List Bool) (from2 : List Int) : Option R := call G 18 [(.agg (cMap m0)), (slc cB open1), (slc cI from2)] []
def en_impl_spread : List Int → R := fun (a : List Int) => (slc cI a, [])
theorem inj_impl_spread : Inj en_impl_spread := fun a b h => by
  simpa [en_impl_spread, Prod.ext_iff, and_assoc] using h
noncomputable def cl_impl_spread {γ : Type} (m0 : DMap) (open1 : List Bool) (from2 : List Int) (k : List Int → Option γ) : Option γ := cl en_impl_spread (call G) 18 [(.agg (cMap m0)), (slc cB open1), (slc cI from2)] [] k
theorem k_impl_spread {γ : Type} (m0 : DMap) (open1 : List Bool) (from2 : List Int) {v : List Int} (h : A_impl_spread m0 open1 from2 = some (en_impl_spread v)) (k : List Int → Option γ) : cl_impl_spread m0 open1 from2 k = k v := cl_eq inj_impl_spread h k
noncomputable def A_spec_l1Cur_game (ml_0 : Dl1Cur) : Option R := call G 26 [(AV.ptr (Id.l 0) none 0)] [(Id.l 0, bl (cl1Cur ml_0))]
def en_spec_l1Cur_game : (DBoard × DState) × Dl1Cur → R := fun (a : (DBoard × DState) × Dl1Cur) => (AV.tup [AV.agg (cBoard a.fst.fst), AV.agg [I a.fst.snd.Turn, I a.fst.snd.Weather, AV.own (Id.r 0 0) none 0 (List.length a.fst.snd.Units) (List.length a.fst.snd.Units)]], [(Id.l 0, bl (cl1Cur a.snd)), (Id.r 0 0, some (rowB true false 4 cUnit a.fst.snd.Units))])
theorem inj_spec_l1Cur_game : Inj en_spec_l1Cur_game := fun a b h => by
  first | (simpa [en_spec_l1Cur_game, Prod.ext_iff, and_assoc] using h) | (obtain ⟨⟨⟨⟨_, _, _, _, _, _, _⟩, ⟨_, _, _, _, _⟩⟩, ⟨_, _, _⟩⟩, _⟩ := a; obtain ⟨⟨⟨⟨_, _, _, _, _, _, _⟩, ⟨_, _, _, _, _⟩⟩, ⟨_, _, _⟩⟩, _⟩ := b; simp [en_spec_l1Cur_game] at h ⊢; simp_all; done) | (obtain ⟨⟨⟨⟨_, _, _, _, _, _, _⟩, ⟨_, _, _, _, _⟩⟩, ⟨_, _, _⟩⟩, _⟩ := a; obtain ⟨⟨⟨⟨_, _, _, _, _, _, _⟩, ⟨_, _, _, _, _⟩⟩, ⟨_, _, _⟩⟩, _⟩ := b; simp [en_spec_l1Cur_game] at h; obtain ⟨h1, h2⟩ := h; have h3 := List.append_inj h2.2.2 h1.2.1.1; simp_all) | (obtain ⟨⟨⟨⟨_, _, _, _, _, _, _⟩, ⟨_, _, _, _, _⟩⟩, ⟨_, _, _⟩⟩, _⟩ := a; obtain ⟨⟨⟨⟨_, _, _, _, _, _, _⟩, ⟨_, _, _, _, _⟩⟩, ⟨_, _, _⟩⟩, _⟩ := b; simp [en_spec_l1Cur_game] at h; obtain ⟨h1, h2⟩ := h; have h3 := List.append_inj h2.2 h1.1; simp_all)
noncomputable def cl_spec_l1Cur_game {γ : Type} (ml_0 : Dl1Cur) (k : (DBoard × DState) × Dl1Cur → Option γ) : Option γ := cl en_spec_l1Cur_game (call G) 26 [(AV.ptr (Id.l 0) none 0)] [(Id.l 0, bl (cl1Cur ml_0))] k
theorem ko_spec_l1Cur_game {γ : Type} (ml_0 : Dl1Cur) {Q : (DBoard × DState) × Dl1Cur → Prop} (h : ∃ v, A_spec_l1Cur_game ml_0 = some (en_spec_l1Cur_game v) ∧ Q v) {k : (DBoard × DState) × Dl1Cur → Option γ} {Q' : γ → Prop} (hk : ∀ v, Q v → OK (k v) Q') : OK (cl_spec_l1Cur_game ml_0 k) Q' := cl_ok inj_spec_l1Cur_game h hk
noncomputable def A_spec_l1Cur_unitIn (ml_0 : Dl1Cur) (s1 : DState) : Option R := call G 27 [(AV.ptr (Id.l 0) none 0), (.agg (cState s1))] [(Id.l 0, bl (cl1Cur ml_0))]
def en_spec_l1Cur_unitIn : Int × Dl1Cur → R := fun (a : Int × Dl1Cur) => (I a.fst, [(Id.l 0, bl (cl1Cur a.snd))])
theorem inj_spec_l1Cur_unitIn : Inj en_spec_l1Cur_unitIn := fun a b h => by
  first | (simpa [en_spec_l1Cur_unitIn, Prod.ext_iff, and_assoc] using h) | (obtain ⟨_, _⟩ := a; obtain ⟨_, _⟩ := b; simp [en_spec_l1Cur_unitIn] at h ⊢; simp_all; done) | (obtain ⟨_, _⟩ := a; obtain ⟨_, _⟩ := b; simp [en_spec_l1Cur_unitIn] at h; obtain ⟨h1, h2⟩ := h; have h3 := List.append_inj h2.2.2 h1.2.1.1; simp_all) | (obtain ⟨_, _⟩ := a; obtain ⟨_, _⟩ := b; simp [en_spec_l1Cur_unitIn] at h; obtain ⟨h1, h2⟩ := h; have h3 := List.append_inj h2.2 h1.1; simp_all)
noncomputable def cl_spec_l1Cur_unitIn {γ : Type} (ml_0 : Dl1Cur) (s1 : DState) (k : Int × Dl1Cur → Option γ) : Option γ := cl en_spec_l1Cur_unitIn (call G) 27 [(AV.ptr (Id.l 0) none 0), (.agg (cState s1))] [(Id.l 0, bl (cl1Cur ml_0))] k
theorem ko_spec_l1Cur_unitIn {γ : Type} (ml_0 : Dl1Cur) (s1 : DState) {Q : Int × Dl1Cur → Prop} (h : ∃ v, A_spec_l1Cur_unitIn ml_0 s1 = some (en_spec_l1Cur_unitIn v) ∧ Q v) {k : Int × Dl1Cur → Option γ} {Q' : γ → Prop} (hk : ∀ v, Q v → OK (k v) Q') : OK (cl_spec_l1Cur_unitIn ml_0 s1 k) Q' := cl_ok inj_spec_l1Cur_unitIn h hk
noncomputable def A_spec_l1Cur_sources (ml_0 : Dl1Cur) (b1 : DBoard) (s2 : DState) : Option R := call G 28 [(AV.ptr (Id.l 0) none 0), (.agg (cBoard b1)), (.agg (cState s2))] [(Id.l 0, bl (cl1Cur ml_0))]
def en_spec_l1Cur_sources : (List Int × List Int) × Dl1Cur → R := fun (a : (List Int × List Int) × Dl1Cur) => (AV.own (Id.r 0 0) none 0 (List.length a.fst.fst) (List.length a.fst.fst + List.length a.fst.snd), [(Id.l 0, bl (cl1Cur a.snd)), (Id.r 0 0, some (rowB true false 1 cI (a.fst.fst ++ a.fst.snd)))])
theorem inj_spec_l1Cur_sources : Inj en_spec_l1Cur_sources := fun a b h => by
  first | (simpa [en_spec_l1Cur_sources, Prod.ext_iff, and_assoc] using h) | (obtain ⟨⟨_, _⟩, _⟩ := a; obtain ⟨⟨_, _⟩, _⟩ := b; simp [en_spec_l1Cur_sources] at h ⊢; simp_all; done) | (obtain ⟨⟨_, _⟩, _⟩ := a; obtain ⟨⟨_, _⟩, _⟩ := b; simp [en_spec_l1Cur_sources] at h; obtain ⟨h1, h2⟩ := h; have h3 := List.append_inj h2.2.2 h1.2.1.1; simp_all) | (obtain ⟨⟨_, _⟩, _⟩ := a; obtain ⟨⟨_, _⟩, _⟩ := b; simp [en_spec_l1Cur_sources] at h; obtain ⟨h1, h2⟩ := h; have h3 := List.append_inj h2.2 h1.1; simp_all)
noncomputable def cl_spec_l1Cur_sources {γ : Type} (ml_0 : Dl1Cur) (b1 : DBoard) (s2 : DState) (k : (List Int × List Int) × Dl1Cur → Option γ) : Option γ := cl en_spec_l1Cur_sources (call G) 28 [(AV.ptr (Id.l 0) none 0), (.agg (cBoard b1)), (.agg (cState s2))] [(Id.l 0, bl (cl1Cur ml_0))] k
theorem ko_spec_l1Cur_sources {γ : Type} (ml_0 : Dl1Cur) (b1 : DBoard) (s2 : DState) {Q : (List Int × List Int) × Dl1Cur → Prop} (h : ∃ v, A_spec_l1Cur_sources ml_0 b1 s2 = some (en_spec_l1Cur_sources v) ∧ Q v) {k : (List Int × List Int) × Dl1Cur → Option γ} {Q' : γ → Prop} (hk : ∀ v, Q v → OK (k v) Q') : OK (cl_spec_l1Cur_sources ml_0 b1 s2 k) Q' := cl_ok inj_spec_l1Cur_sources h hk
noncomputable def A_impl_hexesThat_of_impl_CutHexes_1_2 (ml_4 : List Bool) (ml_1 : DBoard) (ml_2 : DUnit) (ml_3f0 : List Int) (b0 : DBoard) : Option R := call G 39 [(.agg (cBoard b0)), (.clo 40 [(AV.ptr (Id.l 0) none 0), (AV.ptr (Id.l 1) none 0), (AV.ptr (Id.l 2) none 0), (AV.ptr (Id.l 3) none 0)])] [(Id.l 0, some ⟨false, false, false, 0, [(.own (Id.l 4) none 0 ml_4.length ml_4.length)]⟩), (Id.l 1, bl (cBoard ml_1)), (Id.l 2, bl (cUnit ml_2)), (Id.l 3, some ⟨false, false, false, 0, [(slc cI ml_3f0)]⟩), (Id.l 4, some (rowB false false 1 cB ml_4))]
def en_impl_hexesThat_of_impl_CutHexes_1_2 : List Int × Nat × DBoard × DUnit × List Int × List Bool → R := fun (a : List Int × Nat × DBoard × DUnit × List Int × List Bool) => (slc cI a.fst, [(Id.l 0, bl [AV.own (Id.l 4) none 0 a.snd.fst a.snd.fst]), (Id.l 1, bl (cBoard a.snd.snd.fst)), (Id.l 2, bl (cUnit a.snd.snd.snd.fst)), (Id.l 3, bl [slc cI a.snd.snd.snd.snd.fst]), (Id.l 4, some (rowB false false 1 cB a.snd.snd.snd.snd.snd))])
theorem inj_impl_hexesThat_of_impl_CutHexes_1_2 : Inj en_impl_hexesThat_of_impl_CutHexes_1_2 := fun a b h => by
  first | (simpa [en_impl_hexesThat_of_impl_CutHexes_1_2, Prod.ext_iff, and_assoc] using h) | (obtain ⟨_, ⟨_, ⟨⟨⟨_, _, _, _, _, _, _⟩, ⟨_, _, _, _, _⟩⟩, ⟨⟨_, _, _, _⟩, ⟨_, _⟩⟩⟩⟩⟩ := a; obtain ⟨_, ⟨_, ⟨⟨⟨_, _, _, _, _, _, _⟩, ⟨_, _, _, _, _⟩⟩, ⟨⟨_, _, _, _⟩, ⟨_, _⟩⟩⟩⟩⟩ := b; simp [en_impl_hexesThat_of_impl_CutHexes_1_2] at h ⊢; simp_all; done) | (obtain ⟨_, ⟨_, ⟨⟨⟨_, _, _, _, _, _, _⟩, ⟨_, _, _, _, _⟩⟩, ⟨⟨_, _, _, _⟩, ⟨_, _⟩⟩⟩⟩⟩ := a; obtain ⟨_, ⟨_, ⟨⟨⟨_, _, _, _, _, _, _⟩, ⟨_, _, _, _, _⟩⟩, ⟨⟨_, _, _, _⟩, ⟨_, _⟩⟩⟩⟩⟩ := b; simp [en_impl_hexesThat_of_impl_CutHexes_1_2] at h; obtain ⟨h1, h2⟩ := h; have h3 := List.append_inj h2.2.2 h1.2.1.1; simp_all) | (obtain ⟨_, ⟨_, ⟨⟨⟨_, _, _, _, _, _, _⟩, ⟨_, _, _, _, _⟩⟩, ⟨⟨_, _, _, _⟩, ⟨_, _⟩⟩⟩⟩⟩ := a; obtain ⟨_, ⟨_, ⟨⟨⟨_, _, _, _, _, _, _⟩, ⟨_, _, _, _, _⟩⟩, ⟨⟨_, _, _, _⟩, ⟨_, _⟩⟩⟩⟩⟩ := b; simp [en_impl_hexesThat_of_impl_CutHexes_1_2] at h; obtain ⟨h1, h2⟩ := h; have h3 := List.append_inj h2.2 h1.1; simp_all)
noncomputable def cl_impl_hexesThat_of_impl_CutHexes_1_2 {γ : Type} (ml_4 : List Bool) (ml_1 : DBoard) (ml_2 : DUnit) (ml_3f0 : List Int) (b0 : DBoard) (k : List Int × Nat × DBoard × DUnit × List Int × List Bool → Option γ) : Option γ := cl en_impl_hexesThat_of_impl_CutHexes_1_2 (call G) 39 [(.agg (cBoard b0)), (.clo 40 [(AV.ptr (Id.l 0) none 0), (AV.ptr (Id.l 1) none 0), (AV.ptr (Id.l 2) none 0), (AV.ptr (Id.l 3) none 0)])] [(Id.l 0, some ⟨false, false, false, 0, [(.own (Id.l 4) none 0 ml_4.length ml_4.length)]⟩), (Id.l 1, bl (cBoard ml_1)), (Id.l 2, bl (cUnit ml_2)), (Id.l 3, some ⟨false, false, false, 0, [(slc cI ml_3f0)]⟩), (Id.l 4, some (rowB false false 1 cB ml_4))] k
theorem k_impl_hexesThat_of_impl_CutHexes_1_2 {γ : Type} (ml_4 : List Bool) (ml_1 : DBoard) (ml_2 : DUnit) (ml_3f0 : List Int) (b0 : DBoard) {v : List Int × Nat × DBoard × DUnit × List Int × List Bool} (h : A_impl_hexesThat_of_impl_CutHexes_1_2 ml_4 ml_1 ml_2 ml_3f0 b0 = some (en_impl_hexesThat_of_impl_CutHexes_1_2 v)) (k : List Int × Nat × DBoard × DUnit × List Int × List Bool → Option γ) : cl_impl_hexesThat_of_impl_CutHexes_1_2 ml_4 ml_1 ml_2 ml_3f0 b0 k = k v := cl_eq inj_impl_hexesThat_of_impl_CutHexes_1_2 h k
noncomputable def A_impl_increasing (list0 : List Int) : Option R := call G 65 [(slc cI list0)] []
def en_impl_increasing : Bool → R := fun (a : Bool) => (B a, [])
theorem inj_impl_increasing : Inj en_impl_increasing := fun a b h => by
  simpa [en_impl_increasing, Prod.ext_iff, and_assoc] using h
noncomputable def cl_impl_increasing {γ : Type} (list0 : List Int) (k : Bool → Option γ) : Option γ := cl en_impl_increasing (call G) 65 [(slc cI list0)] [] k
theorem k_impl_increasing {γ : Type} (list0 : List Int) {v : Bool} (h : A_impl_increasing list0 = some (en_impl_increasing v)) (k : Bool → Option γ) : cl_impl_increasing list0 k = k v := cl_eq inj_impl_increasing h k
noncomputable def A_slices_ContainsFunc_int_of_impl_areSources_1 (ml_0 : DBoard) (s0 : List Int) : Option R := call G 66 [(slc cI s0), (.clo 67 [(AV.ptr (Id.l 0) none 0)])] [(Id.l 0, bl (cBoard ml_0))]
def en_slices_ContainsFunc_int_of_impl_areSources_1 : Bool × DBoard → R := fun (a : Bool × DBoard) => (B a.fst, [(Id.l 0, bl (cBoard a.snd))])
theorem inj_slices_ContainsFunc_int_of_impl_areSources_1 : Inj en_slices_ContainsFunc_int_of_impl_areSources_1 := fun a b h => by
  simpa [en_slices_ContainsFunc_int_of_impl_areSources_1, Prod.ext_iff, and_assoc] using h
noncomputable def cl_slices_ContainsFunc_int_of_impl_areSources_1 {γ : Type} (ml_0 : DBoard) (s0 : List Int) (k : Bool × DBoard → Option γ) : Option γ := cl en_slices_ContainsFunc_int_of_impl_areSources_1 (call G) 66 [(slc cI s0), (.clo 67 [(AV.ptr (Id.l 0) none 0)])] [(Id.l 0, bl (cBoard ml_0))] k
theorem k_slices_ContainsFunc_int_of_impl_areSources_1 {γ : Type} (ml_0 : DBoard) (s0 : List Int) {v : Bool × DBoard} (h : A_slices_ContainsFunc_int_of_impl_areSources_1 ml_0 s0 = some (en_slices_ContainsFunc_int_of_impl_areSources_1 v)) (k : Bool × DBoard → Option γ) : cl_slices_ContainsFunc_int_of_impl_areSources_1 ml_0 s0 k = k v := cl_eq inj_slices_ContainsFunc_int_of_impl_areSources_1 h k
noncomputable def A_impl_terrainAt (b0 : DBoard) (i1 : Int) : Option R := call G 68 [(.agg (cBoard b0)), (I i1)] []
def en_impl_terrainAt : DTerrain → R := fun (a : DTerrain) => (AV.agg (cTerrain a), [])
theorem inj_impl_terrainAt : Inj en_impl_terrainAt := fun a b h => by
  simpa [en_impl_terrainAt, Prod.ext_iff, and_assoc] using h
noncomputable def cl_impl_terrainAt {γ : Type} (b0 : DBoard) (i1 : Int) (k : DTerrain → Option γ) : Option γ := cl en_impl_terrainAt (call G) 68 [(.agg (cBoard b0)), (I i1)] [] k
theorem k_impl_terrainAt {γ : Type} (b0 : DBoard) (i1 : Int) {v : DTerrain} (h : A_impl_terrainAt b0 i1 = some (en_impl_terrainAt v)) (k : DTerrain → Option γ) : cl_impl_terrainAt b0 i1 k = k v := cl_eq inj_impl_terrainAt h k
def en_spec_l1Cur_place : Int × Dl1Cur → R := fun (a : Int × Dl1Cur) => (I a.fst, [(Id.l 0, bl (cl1Cur a.snd))])
theorem inj_spec_l1Cur_place : Inj en_spec_l1Cur_place := fun a b h => by
  simpa [en_spec_l1Cur_place, Prod.ext_iff, and_assoc] using h
noncomputable def cl_spec_l1Cur_place {γ : Type} (ml_0 : Dl1Cur) (m1 : DMap) (k : Int × Dl1Cur → Option γ) : Option γ := cl en_spec_l1Cur_place (call G) 58 [(AV.ptr (Id.l 0) none 0), (.agg (cMap m1))] [(Id.l 0, bl (cl1Cur ml_0))] k
theorem ko_spec_l1Cur_place {γ : Type} (ml_0 : Dl1Cur) (m1 : DMap) {Q : Int × Dl1Cur → Prop} (h : ∃ v, A_spec_l1Cur_place ml_0 m1 = some (en_spec_l1Cur_place v) ∧ Q v) {k : Int × Dl1Cur → Option γ} {Q' : γ → Prop} (hk : ∀ v, Q v → OK (k v) Q') : OK (cl_spec_l1Cur_place ml_0 m1 k) Q' := cl_ok inj_spec_l1Cur_place h hk
noncomputable def A_slices_IndexFunc_int_of_impl_areSources_1 (ml_0 : DBoard) (s0 : List Int) : Option R := call G 86 [(slc cI s0), (.clo 67 [(AV.ptr (Id.l 0) none 0)])] [(Id.l 0, bl (cBoard ml_0))]
def en_slices_IndexFunc_int_of_impl_areSources_1 : Int × DBoard → R := fun (a : Int × DBoard) => (I a.fst, [(Id.l 0, bl (cBoard a.snd))])
theorem inj_slices_IndexFunc_int_of_impl_areSources_1 : Inj en_slices_IndexFunc_int_of_impl_areSources_1 := fun a b h => by
  simpa [en_slices_IndexFunc_int_of_impl_areSources_1, Prod.ext_iff, and_assoc] using h
noncomputable def cl_slices_IndexFunc_int_of_impl_areSources_1 {γ : Type} (ml_0 : DBoard) (s0 : List Int) (k : Int × DBoard → Option γ) : Option γ := cl en_slices_IndexFunc_int_of_impl_areSources_1 (call G) 86 [(slc cI s0), (.clo 67 [(AV.ptr (Id.l 0) none 0)])] [(Id.l 0, bl (cBoard ml_0))] k
theorem k_slices_IndexFunc_int_of_impl_areSources_1 {γ : Type} (ml_0 : DBoard) (s0 : List Int) {v : Int × DBoard} (h : A_slices_IndexFunc_int_of_impl_areSources_1 ml_0 s0 = some (en_slices_IndexFunc_int_of_impl_areSources_1 v)) (k : Int × DBoard → Option γ) : cl_slices_IndexFunc_int_of_impl_areSources_1 ml_0 s0 k = k v := cl_eq inj_slices_IndexFunc_int_of_impl_areSources_1 h k
noncomputable def A_impl_CutHexes_1_2_1 (ml_4 : List Bool) (ml_0f0o : Nat) (ml_0f0n : Nat) (ml_0f0k : Nat) (ml_1 : DBoard) (ml_2 : DUnit) (ml_3f0 : List Int) (i0 : Int) : Option R := call G 40 [(I i0), (AV.ptr (Id.l 0) none 0), (AV.ptr (Id.l 1) none 0), (AV.ptr (Id.l 2) none 0), (AV.ptr (Id.l 3) none 0)] [(Id.l 0, some ⟨false, false, false, 0, [(.own (Id.l 4) none ml_0f0o ml_0f0n ml_0f0k)]⟩), (Id.l 1, bl (cBoard ml_1)), (Id.l 2, bl (cUnit ml_2)), (Id.l 3, some ⟨false, false, false, 0, [(slc cI ml_3f0)]⟩), (Id.l 4, some (rowB false false 1 cB ml_4))]
def en_impl_CutHexes_1_2_1 : Bool × Nat × DBoard × DUnit × List Int × List Bool → R := fun (a : Bool × Nat × DBoard × DUnit × List Int × List Bool) => (B a.fst, [(Id.l 0, bl [AV.own (Id.l 4) none 0 a.snd.fst a.snd.fst]), (Id.l 1, bl (cBoard a.snd.snd.fst)), (Id.l 2, bl (cUnit a.snd.snd.snd.fst)), (Id.l 3, bl [slc cI a.snd.snd.snd.snd.fst]), (Id.l 4, some (rowB false false 1 cB a.snd.snd.snd.snd.snd))])
theorem inj_impl_CutHexes_1_2_1 : Inj en_impl_CutHexes_1_2_1 := fun a b h => by
  first | (simpa [en_impl_CutHexes_1_2_1, Prod.ext_iff, and_assoc] using h) | (obtain ⟨_, ⟨_, ⟨⟨⟨_, _, _, _, _, _, _⟩, ⟨_, _, _, _, _⟩⟩, ⟨⟨_, _, _, _⟩, ⟨_, _⟩⟩⟩⟩⟩ := a; obtain ⟨_, ⟨_, ⟨⟨⟨_, _, _, _, _, _, _⟩, ⟨_, _, _, _, _⟩⟩, ⟨⟨_, _, _, _⟩, ⟨_, _⟩⟩⟩⟩⟩ := b; simp [en_impl_CutHexes_1_2_1] at h ⊢; simp_all; done) | (obtain ⟨_, ⟨_, ⟨⟨⟨_, _, _, _, _, _, _⟩, ⟨_, _, _, _, _⟩⟩, ⟨⟨_, _, _, _⟩, ⟨_, _⟩⟩⟩⟩⟩ := a; obtain ⟨_, ⟨_, ⟨⟨⟨_, _, _, _, _, _, _⟩, ⟨_, _, _, _, _⟩⟩, ⟨⟨_, _, _, _⟩, ⟨_, _⟩⟩⟩⟩⟩ := b; simp [en_impl_CutHexes_1_2_1] at h; obtain ⟨h1, h2⟩ := h; have h3 := List.append_inj h2.2.2 h1.2.1.1; simp_all) | (obtain ⟨_, ⟨_, ⟨⟨⟨_, _, _, _, _, _, _⟩, ⟨_, _, _, _, _⟩⟩, ⟨⟨_, _, _, _⟩, ⟨_, _⟩⟩⟩⟩⟩ := a; obtain ⟨_, ⟨_, ⟨⟨⟨_, _, _, _, _, _, _⟩, ⟨_, _, _, _, _⟩⟩, ⟨⟨_, _, _, _⟩, ⟨_, _⟩⟩⟩⟩⟩ := b; simp [en_impl_CutHexes_1_2_1] at h; obtain ⟨h1, h2⟩ := h; have h3 := List.append_inj h2.2 h1.1; simp_all)
noncomputable def cl_impl_CutHexes_1_2_1 {γ : Type} (ml_4 : List Bool) (ml_0f0o : Nat) (ml_0f0n : Nat) (ml_0f0k : Nat) (ml_1 : DBoard) (ml_2 : DUnit) (ml_3f0 : List Int) (i0 : Int) (k : Bool × Nat × DBoard × DUnit × List Int × List Bool → Option γ) : Option γ := cl en_impl_CutHexes_1_2_1 (call G) 40 [(I i0), (AV.ptr (Id.l 0) none 0), (AV.ptr (Id.l 1) none 0), (AV.ptr (Id.l 2) none 0), (AV.ptr (Id.l 3) none 0)] [(Id.l 0, some ⟨false, false, false, 0, [(.own (Id.l 4) none ml_0f0o ml_0f0n ml_0f0k)]⟩), (Id.l 1, bl (cBoard ml_1)), (Id.l 2, bl (cUnit ml_2)), (Id.l 3, some ⟨false, false, false, 0, [(slc cI ml_3f0)]⟩), (Id.l 4, some (rowB false false 1 cB ml_4))] k
theorem k_impl_CutHexes_1_2_1 {γ : Type} (ml_4 : List Bool) (ml_0f0o : Nat) (ml_0f0n : Nat) (ml_0f0k : Nat) (ml_1 : DBoard) (ml_2 : DUnit) (ml_3f0 : List Int) (i0 : Int) {v : Bool × Nat × DBoard × DUnit × List Int × List Bool} (h : A_impl_CutHexes_1_2_1 ml_4 ml_0f0o ml_0f0n ml_0f0k ml_1 ml_2 ml_3f0 i0 = some (en_impl_CutHexes_1_2_1 v)) (k : Bool × Nat × DBoard × DUnit × List Int × List Bool → Option γ) : cl_impl_CutHexes_1_2_1 ml_4 ml_0f0o ml_0f0n ml_0f0k ml_1 ml_2 ml_3f0 i0 k = k v := cl_eq inj_impl_CutHexes_1_2_1 h k
noncomputable def A_impl_areSources_1 (ml_0 : DBoard) (i0 : Int) : Option R := call G 67 [(I i0), (AV.ptr (Id.l 0) none 0)] [(Id.l 0, bl (cBoard ml_0))]
def en_impl_areSources_1 : Bool × DBoard → R := fun (a : Bool × DBoard) => (B a.fst, [(Id.l 0, bl (cBoard a.snd))])
theorem inj_impl_areSources_1 : Inj en_impl_areSources_1 := fun a b h => by
  simpa [en_impl_areSources_1, Prod.ext_iff, and_assoc] using h
noncomputable def cl_impl_areSources_1 {γ : Type} (ml_0 : DBoard) (i0 : Int) (k : Bool × DBoard → Option γ) : Option γ := cl en_impl_areSources_1 (call G) 67 [(I i0), (AV.ptr (Id.l 0) none 0)] [(Id.l 0, bl (cBoard ml_0))] k
theorem k_impl_areSources_1 {γ : Type} (ml_0 : DBoard) (i0 : Int) {v : Bool × DBoard} (h : A_impl_areSources_1 ml_0 i0 = some (en_impl_areSources_1 v)) (k : Bool × DBoard → Option γ) : cl_impl_areSources_1 ml_0 i0 k = k v := cl_eq inj_impl_areSources_1 h k
noncomputable def A_spec_jIn (b0 : DBoard) (s1 : DState) (u2 : Int) (sources3 : List Int) : Option R := call G 22 [(.agg (cBoard b0)), (.agg (cState s1)), (I u2), (slc cI sources3)] []
def en_spec_jIn : Bool → R := fun (a : Bool) => (B a, [])
theorem inj_spec_jIn : Inj en_spec_jIn := fun a b h => by
  simpa [en_spec_jIn, Prod.ext_iff, and_assoc] using h
noncomputable def cl_spec_jIn {γ : Type} (b0 : DBoard) (s1 : DState) (u2 : Int) (sources3 : List Int) (k : Bool → Option γ) : Option γ := cl en_spec_jIn (call G) 22 [(.agg (cBoard b0)), (.agg (cState s1)), (I u2), (slc cI sources3)] [] k
theorem k_spec_jIn {γ : Type} (b0 : DBoard) (s1 : DState) (u2 : Int) (sources3 : List Int) {v : Bool} (h : A_spec_jIn b0 s1 u2 sources3 = some (en_spec_jIn v)) (k : Bool → Option γ) : cl_spec_jIn b0 s1 u2 sources3 k = k v := cl_eq inj_spec_jIn h k
noncomputable def A_spec_jUnit (b0 : DBoard) (s1 : DState) (u2 : Int) (sources3 : List Int) : Option R := call G 23 [(.agg (cBoard b0)), (.agg (cState s1)), (I u2), (slc cI sources3)] []
def en_spec_jUnit : List Bool × List Int → R := fun (a : List Bool × List Int) => (AV.tup [slc cB a.fst, slc cI a.snd], [])
theorem inj_spec_jUnit : Inj en_spec_jUnit := fun a b h => by
  simpa [en_spec_jUnit, Prod.ext_iff, and_assoc] using h
noncomputable def cl_spec_jUnit {γ : Type} (b0 : DBoard) (s1 : DState) (u2 : Int) (sources3 : List Int) (k : List Bool × List Int → Option γ) : Option γ := cl en_spec_jUnit (call G) 23 [(.agg (cBoard b0)), (.agg (cState s1)), (I u2), (slc cI sources3)] [] k
theorem k_spec_jUnit {γ : Type} (b0 : DBoard) (s1 : DState) (u2 : Int) (sources3 : List Int) {v : List Bool × List Int} (h : A_spec_jUnit b0 s1 u2 sources3 = some (en_spec_jUnit v)) (k : List Bool × List Int → Option γ) : cl_spec_jUnit b0 s1 u2 sources3 k = k v := cl_eq inj_spec_jUnit h k
noncomputable def A_impl_stepBy (h0 : DHex) (d1 : Int) (n2 : Int) : Option R := call G 72 [(.agg (cHex h0)), (I d1), (I n2)] []
def en_impl_stepBy : DHex → R := fun (a : DHex) => (AV.agg (cHex a), [])
theorem inj_impl_stepBy : Inj en_impl_stepBy := fun a b h => by
  simpa [en_impl_stepBy, Prod.ext_iff, and_assoc] using h
noncomputable def cl_impl_stepBy {γ : Type} (h0 : DHex) (d1 : Int) (n2 : Int) (k : DHex → Option γ) : Option γ := cl en_impl_stepBy (call G) 72 [(.agg (cHex h0)), (I d1), (I n2)] [] k
theorem k_impl_stepBy {γ : Type} (h0 : DHex) (d1 : Int) (n2 : Int) {v : DHex} (h : A_impl_stepBy h0 d1 n2 = some (en_impl_stepBy v)) (k : DHex → Option γ) : cl_impl_stepBy h0 d1 n2 k = k v := cl_eq inj_impl_stepBy h k
noncomputable def A_spec_mRiver (m0 : DMap) (i1 : Int) (d2 : Int) : Option R := call G 122 [(.agg (cMap m0)), (I i1), (I d2)] []
def en_spec_mRiver : Bool → R := fun (a : Bool) => (B a, [])
theorem inj_spec_mRiver : Inj en_spec_mRiver := fun a b h => by
  simpa [en_spec_mRiver, Prod.ext_iff, and_assoc] using h
noncomputable def cl_spec_mRiver {γ : Type} (m0 : DMap) (i1 : Int) (d2 : Int) (k : Bool → Option γ) : Option γ := cl en_spec_mRiver (call G) 122 [(.agg (cMap m0)), (I i1), (I d2)] [] k
theorem k_spec_mRiver {γ : Type} (m0 : DMap) (i1 : Int) (d2 : Int) {v : Bool} (h : A_spec_mRiver m0 i1 d2 = some (en_spec_mRiver v)) (k : Bool → Option γ) : cl_spec_mRiver m0 i1 d2 k = k v := cl_eq inj_spec_mRiver h k
noncomputable def A_impl_terrainIndex (list0 : List DTerrain) (name1 : ByteArray) : Option R := call G 109 [(slc cTerrain list0), (S name1)] []
def en_impl_terrainIndex : Int → R := fun (a : Int) => (I a, [])
theorem inj_impl_terrainIndex : Inj en_impl_terrainIndex := fun a b h => by
  simpa [en_impl_terrainIndex, Prod.ext_iff, and_assoc] using h
noncomputable def cl_impl_terrainIndex {γ : Type} (list0 : List DTerrain) (name1 : ByteArray) (k : Int → Option γ) : Option γ := cl en_impl_terrainIndex (call G) 109 [(slc cTerrain list0), (S name1)] [] k
theorem k_impl_terrainIndex {γ : Type} (list0 : List DTerrain) (name1 : ByteArray) {v : Int} (h : A_impl_terrainIndex list0 name1 = some (en_impl_terrainIndex v)) (k : Int → Option γ) : cl_impl_terrainIndex list0 name1 k = k v := cl_eq inj_impl_terrainIndex h k
noncomputable def A_spec_jInput (b0 : DBoard) (s1 : DState) (u2 : Int) (sources3 : List Int) : Option R := call G 21 [(.agg (cBoard b0)), (.agg (cState s1)), (I u2), (slc cI sources3)] []
def en_spec_jInput : Bool → R := fun (a : Bool) => (B a, [])
theorem inj_spec_jInput : Inj en_spec_jInput := fun a b h => by
  first | (simpa [en_spec_jInput, Prod.ext_iff, and_assoc] using h) | (obtain _ := a; obtain _ := b; simp [en_spec_jInput] at h ⊢; simp_all; done) | (obtain _ := a; obtain _ := b; simp [en_spec_jInput] at h; obtain ⟨h1, h2⟩ := h; have h3 := List.append_inj h2.2.2 h1.2.1.1; simp_all) | (obtain _ := a; obtain _ := b; simp [en_spec_jInput] at h; obtain ⟨h1, h2⟩ := h; have h3 := List.append_inj h2.2 h1.1; simp_all)
noncomputable def cl_spec_jInput {γ : Type} (b0 : DBoard) (s1 : DState) (u2 : Int) (sources3 : List Int) (k : Bool → Option γ) : Option γ := cl en_spec_jInput (call G) 21 [(.agg (cBoard b0)), (.agg (cState s1)), (I u2), (slc cI sources3)] [] k
theorem k_spec_jInput {γ : Type} (b0 : DBoard) (s1 : DState) (u2 : Int) (sources3 : List Int) {v : Bool} (h : A_spec_jInput b0 s1 u2 sources3 = some (en_spec_jInput v)) (k : Bool → Option γ) : cl_spec_jInput b0 s1 u2 sources3 k = k v := cl_eq inj_spec_jInput h k
noncomputable def A_impl_isSide (side0 : Int) : Option R := call G 113 [(I side0)] []
def en_impl_isSide : Bool → R := fun (a : Bool) => (B a, [])
theorem inj_impl_isSide : Inj en_impl_isSide := fun a b h => by
  simpa [en_impl_isSide, Prod.ext_iff, and_assoc] using h
noncomputable def cl_impl_isSide {γ : Type} (side0 : Int) (k : Bool → Option γ) : Option γ := cl en_impl_isSide (call G) 113 [(I side0)] [] k
theorem k_impl_isSide {γ : Type} (side0 : Int) {v : Bool} (h : A_impl_isSide side0 = some (en_impl_isSide v)) (k : Bool → Option γ) : cl_impl_isSide side0 k = k v := cl_eq inj_impl_isSide h k
noncomputable def A_spec_jOpen (b0 : DBoard) (s1 : DState) (side2 : Int) (kind3 : Int) : Option R := call G 50 [(.agg (cBoard b0)), (.agg (cState s1)), (I side2), (I kind3)] []
def en_spec_jOpen : List Bool → R := fun (a : List Bool) => (slc cB a, [])
theorem inj_spec_jOpen : Inj en_spec_jOpen := fun a b h => by
  simpa [en_spec_jOpen, Prod.ext_iff, and_assoc] using h
noncomputable def cl_spec_jOpen {γ : Type} (b0 : DBoard) (s1 : DState) (side2 : Int) (kind3 : Int) (k : List Bool → Option γ) : Option γ := cl en_spec_jOpen (call G) 50 [(.agg (cBoard b0)), (.agg (cState s1)), (I side2), (I kind3)] [] k
theorem k_spec_jOpen {γ : Type} (b0 : DBoard) (s1 : DState) (side2 : Int) (kind3 : Int) {v : List Bool} (h : A_spec_jOpen b0 s1 side2 kind3 = some (en_spec_jOpen v)) (k : List Bool → Option γ) : cl_spec_jOpen b0 s1 side2 kind3 k = k v := cl_eq inj_spec_jOpen h k
noncomputable def A_spec_jFar (m0 : DMap) (open1 : List Bool) (sources2 : List Int) : Option R := call G 24 [(.agg (cMap m0)), (slc cB open1), (slc cI sources2)] []
def en_spec_jFar : List Int → R := fun (a : List Int) => (slc cI a, [])
theorem inj_spec_jFar : Inj en_spec_jFar := fun a b h => by
  simpa [en_spec_jFar, Prod.ext_iff, and_assoc] using h
noncomputable def cl_spec_jFar {γ : Type} (m0 : DMap) (open1 : List Bool) (sources2 : List Int) (k : List Int → Option γ) : Option γ := cl en_spec_jFar (call G) 24 [(.agg (cMap m0)), (slc cB open1), (slc cI sources2)] [] k
theorem k_spec_jFar {γ : Type} (m0 : DMap) (open1 : List Bool) (sources2 : List Int) {v : List Int} (h : A_spec_jFar m0 open1 sources2 = some (en_spec_jFar v)) (k : List Int → Option γ) : cl_spec_jFar m0 open1 sources2 k = k v := cl_eq inj_spec_jFar h k
noncomputable def A_slices_IndexFunc_Terrain_of_impl_terrainIndex_1 (ml_0f0 : ByteArray) (s0 : List DTerrain) : Option R := call G 118 [(slc cTerrain s0), (.clo 119 [(AV.ptr (Id.l 0) none 0)])] [(Id.l 0, some ⟨false, false, false, 0, [(S ml_0f0)]⟩)]
def en_slices_IndexFunc_Terrain_of_impl_terrainIndex_1 : Int × ByteArray → R := fun (a : Int × ByteArray) => (I a.fst, [(Id.l 0, bl [S a.snd])])
theorem inj_slices_IndexFunc_Terrain_of_impl_terrainIndex_1 : Inj en_slices_IndexFunc_Terrain_of_impl_terrainIndex_1 := fun a b h => by
  simpa [en_slices_IndexFunc_Terrain_of_impl_terrainIndex_1, Prod.ext_iff, and_assoc] using h
noncomputable def cl_slices_IndexFunc_Terrain_of_impl_terrainIndex_1 {γ : Type} (ml_0f0 : ByteArray) (s0 : List DTerrain) (k : Int × ByteArray → Option γ) : Option γ := cl en_slices_IndexFunc_Terrain_of_impl_terrainIndex_1 (call G) 118 [(slc cTerrain s0), (.clo 119 [(AV.ptr (Id.l 0) none 0)])] [(Id.l 0, some ⟨false, false, false, 0, [(S ml_0f0)]⟩)] k
theorem k_slices_IndexFunc_Terrain_of_impl_terrainIndex_1 {γ : Type} (ml_0f0 : ByteArray) (s0 : List DTerrain) {v : Int × ByteArray} (h : A_slices_IndexFunc_Terrain_of_impl_terrainIndex_1 ml_0f0 s0 = some (en_slices_IndexFunc_Terrain_of_impl_terrainIndex_1 v)) (k : Int × ByteArray → Option γ) : cl_slices_IndexFunc_Terrain_of_impl_terrainIndex_1 ml_0f0 s0 k = k v := cl_eq inj_slices_IndexFunc_Terrain_of_impl_terrainIndex_1 h k
noncomputable def A_impl_goodTerrain (t0 : DTerrain) (kinds1 : Int) : Option R := call G 108 [(.agg (cTerrain t0)), (I kinds1)] []
def en_impl_goodTerrain : Bool → R := fun (a : Bool) => (B a, [])
theorem inj_impl_goodTerrain : Inj en_impl_goodTerrain := fun a b h => by
  simpa [en_impl_goodTerrain, Prod.ext_iff, and_assoc] using h
noncomputable def cl_impl_goodTerrain {γ : Type} (t0 : DTerrain) (kinds1 : Int) (k : Bool → Option γ) : Option γ := cl en_impl_goodTerrain (call G) 108 [(.agg (cTerrain t0)), (I kinds1)] [] k
theorem k_impl_goodTerrain {γ : Type} (t0 : DTerrain) (kinds1 : Int) {v : Bool} (h : A_impl_goodTerrain t0 kinds1 = some (en_impl_goodTerrain v)) (k : Bool → Option γ) : cl_impl_goodTerrain t0 kinds1 k = k v := cl_eq inj_impl_goodTerrain h k
noncomputable def A_spec_mRoad (m0 : DMap) (i1 : Int) (d2 : Int) : Option R := call G 123 [(.agg (cMap m0)), (I i1), (I d2)] []
def en_spec_mRoad : Bool → R := fun (a : Bool) => (B a, [])
theorem inj_spec_mRoad : Inj en_spec_mRoad := fun a b h => by
  simpa [en_spec_mRoad, Prod.ext_iff, and_assoc] using h
noncomputable def cl_spec_mRoad {γ : Type} (m0 : DMap) (i1 : Int) (d2 : Int) (k : Bool → Option γ) : Option γ := cl en_spec_mRoad (call G) 123 [(.agg (cMap m0)), (I i1), (I d2)] [] k
theorem k_spec_mRoad {γ : Type} (m0 : DMap) (i1 : Int) (d2 : Int) {v : Bool} (h : A_spec_mRoad m0 i1 d2 = some (en_spec_mRoad v)) (k : Bool → Option γ) : cl_spec_mRoad m0 i1 d2 k = k v := cl_eq inj_spec_mRoad h k
noncomputable def A_impl_goodKind (k0 : DKind) : Option R := call G 110 [(.agg (cKind k0))] []
def en_impl_goodKind : Bool → R := fun (a : Bool) => (B a, [])
theorem inj_impl_goodKind : Inj en_impl_goodKind := fun a b h => by
  simpa [en_impl_goodKind, Prod.ext_iff, and_assoc] using h
noncomputable def cl_impl_goodKind {γ : Type} (k0 : DKind) (k : Bool → Option γ) : Option γ := cl en_impl_goodKind (call G) 110 [(.agg (cKind k0))] [] k
theorem k_impl_goodKind {γ : Type} (k0 : DKind) {v : Bool} (h : A_impl_goodKind k0 = some (en_impl_goodKind v)) (k : Bool → Option γ) : cl_impl_goodKind k0 k = k v := cl_eq inj_impl_goodKind h k
noncomputable def A_impl_kindIndex (list0 : List DKind) (name1 : ByteArray) : Option R := call G 111 [(slc cKind list0), (S name1)] []
def en_impl_kindIndex : Int → R := fun (a : Int) => (I a, [])
theorem inj_impl_kindIndex : Inj en_impl_kindIndex := fun a b h => by
  simpa [en_impl_kindIndex, Prod.ext_iff, and_assoc] using h
noncomputable def cl_impl_kindIndex {γ : Type} (list0 : List DKind) (name1 : ByteArray) (k : Int → Option γ) : Option γ := cl en_impl_kindIndex (call G) 111 [(slc cKind list0), (S name1)] [] k
theorem k_impl_kindIndex {γ : Type} (list0 : List DKind) (name1 : ByteArray) {v : Int} (h : A_impl_kindIndex list0 name1 = some (en_impl_kindIndex v)) (k : Int → Option γ) : cl_impl_kindIndex list0 name1 k = k v := cl_eq inj_impl_kindIndex h k
noncomputable def A_impl_terrainIndex_1 (ml_0f0 : ByteArray) (t0 : DTerrain) : Option R := call G 119 [(.agg (cTerrain t0)), (AV.ptr (Id.l 0) none 0)] [(Id.l 0, some ⟨false, false, false, 0, [(S ml_0f0)]⟩)]
def en_impl_terrainIndex_1 : Bool × ByteArray → R := fun (a : Bool × ByteArray) => (B a.fst, [(Id.l 0, bl [S a.snd])])
theorem inj_impl_terrainIndex_1 : Inj en_impl_terrainIndex_1 := fun a b h => by
  simpa [en_impl_terrainIndex_1, Prod.ext_iff, and_assoc] using h
noncomputable def cl_impl_terrainIndex_1 {γ : Type} (ml_0f0 : ByteArray) (t0 : DTerrain) (k : Bool × ByteArray → Option γ) : Option γ := cl en_impl_terrainIndex_1 (call G) 119 [(.agg (cTerrain t0)), (AV.ptr (Id.l 0) none 0)] [(Id.l 0, some ⟨false, false, false, 0, [(S ml_0f0)]⟩)] k
theorem k_impl_terrainIndex_1 {γ : Type} (ml_0f0 : ByteArray) (t0 : DTerrain) {v : Bool × ByteArray} (h : A_impl_terrainIndex_1 ml_0f0 t0 = some (en_impl_terrainIndex_1 v)) (k : Bool × ByteArray → Option γ) : cl_impl_terrainIndex_1 ml_0f0 t0 k = k v := cl_eq inj_impl_terrainIndex_1 h k
noncomputable def A_impl_indexOf (m0 : DMap) (h1 : DHex) : Option R := call G 71 [(.agg (cMap m0)), (.agg (cHex h1))] []
def en_impl_indexOf : Int → R := fun (a : Int) => (I a, [])
theorem inj_impl_indexOf : Inj en_impl_indexOf := fun a b h => by
  simpa [en_impl_indexOf, Prod.ext_iff, and_assoc] using h
noncomputable def cl_impl_indexOf {γ : Type} (m0 : DMap) (h1 : DHex) (k : Int → Option γ) : Option γ := cl en_impl_indexOf (call G) 71 [(.agg (cMap m0)), (.agg (cHex h1))] [] k
theorem k_impl_indexOf {γ : Type} (m0 : DMap) (h1 : DHex) {v : Int} (h : A_impl_indexOf m0 h1 = some (en_impl_indexOf v)) (k : Int → Option γ) : cl_impl_indexOf m0 h1 k = k v := cl_eq inj_impl_indexOf h k
noncomputable def A_impl_isName (s0 : ByteArray) : Option R := call G 116 [(S s0)] []
def en_impl_isName : Bool → R := fun (a : Bool) => (B a, [])
theorem inj_impl_isName : Inj en_impl_isName := fun a b h => by
  simpa [en_impl_isName, Prod.ext_iff, and_assoc] using h
noncomputable def cl_impl_isName {γ : Type} (s0 : ByteArray) (k : Bool → Option γ) : Option γ := cl en_impl_isName (call G) 116 [(S s0)] [] k
theorem k_impl_isName {γ : Type} (s0 : ByteArray) {v : Bool} (h : A_impl_isName s0 = some (en_impl_isName v)) (k : Bool → Option γ) : cl_impl_isName s0 k = k v := cl_eq inj_impl_isName h k
noncomputable def A_spec_l1Cur_anyBoard (ml_0 : Dl1Cur) : Option R := call G 54 [(AV.ptr (Id.l 0) none 0)] [(Id.l 0, bl (cl1Cur ml_0))]
def en_spec_l1Cur_anyBoard : DBoard × Dl1Cur → R := fun (a : DBoard × Dl1Cur) => (AV.agg (cBoard a.fst), [(Id.l 0, bl (cl1Cur a.snd))])
theorem inj_spec_l1Cur_anyBoard : Inj en_spec_l1Cur_anyBoard := fun a b h => by
  simpa [en_spec_l1Cur_anyBoard, Prod.ext_iff, and_assoc] using h
noncomputable def cl_spec_l1Cur_anyBoard {γ : Type} (ml_0 : Dl1Cur) (k : DBoard × Dl1Cur → Option γ) : Option γ := cl en_spec_l1Cur_anyBoard (call G) 54 [(AV.ptr (Id.l 0) none 0)] [(Id.l 0, bl (cl1Cur ml_0))] k
theorem ko_spec_l1Cur_anyBoard {γ : Type} (ml_0 : Dl1Cur) {Q : DBoard × Dl1Cur → Prop} (h : ∃ v, A_spec_l1Cur_anyBoard ml_0 = some (en_spec_l1Cur_anyBoard v) ∧ Q v) {k : DBoard × Dl1Cur → Option γ} {Q' : γ → Prop} (hk : ∀ v, Q v → OK (k v) Q') : OK (cl_spec_l1Cur_anyBoard ml_0 k) Q' := cl_ok inj_spec_l1Cur_anyBoard h hk
noncomputable def A_spec_sHas (b0 : DBoard) (s1 : DState) (u2 : Int) : Option R := call G 47 [(.agg (cBoard b0)), (.agg (cState s1)), (I u2)] []
def en_spec_sHas : Bool → R := fun (a : Bool) => (B a, [])
theorem inj_spec_sHas : Inj en_spec_sHas := fun a b h => by
  first | (simpa [en_spec_sHas, Prod.ext_iff, and_assoc] using h) | (obtain _ := a; obtain _ := b; simp [en_spec_sHas] at h ⊢; simp_all; done) | (obtain _ := a; obtain _ := b; simp [en_spec_sHas] at h; obtain ⟨h1, h2⟩ := h; have h3 := List.append_inj h2.2.2 h1.2.1.1; simp_all) | (obtain _ := a; obtain _ := b; simp [en_spec_sHas] at h; obtain ⟨h1, h2⟩ := h; have h3 := List.append_inj h2.2 h1.1; simp_all)
noncomputable def cl_spec_sHas {γ : Type} (b0 : DBoard) (s1 : DState) (u2 : Int) (k : Bool → Option γ) : Option γ := cl en_spec_sHas (call G) 47 [(.agg (cBoard b0)), (.agg (cState s1)), (I u2)] [] k
theorem k_spec_sHas {γ : Type} (b0 : DBoard) (s1 : DState) (u2 : Int) {v : Bool} (h : A_spec_sHas b0 s1 u2 = some (en_spec_sHas v)) (k : Bool → Option γ) : cl_spec_sHas b0 s1 u2 k = k v := cl_eq inj_spec_sHas h k
noncomputable def A_spec_l1Cur_board (ml_0 : Dl1Cur) : Option R := call G 77 [(AV.ptr (Id.l 0) none 0)] [(Id.l 0, bl (cl1Cur ml_0))]
def en_spec_l1Cur_board : DBoard × Dl1Cur → R := fun (a : DBoard × Dl1Cur) => (AV.agg (cBoard a.fst), [(Id.l 0, bl (cl1Cur a.snd))])
theorem inj_spec_l1Cur_board : Inj en_spec_l1Cur_board := fun a b h => by
  simpa [en_spec_l1Cur_board, Prod.ext_iff, and_assoc] using h
noncomputable def cl_spec_l1Cur_board {γ : Type} (ml_0 : Dl1Cur) (k : DBoard × Dl1Cur → Option γ) : Option γ := cl en_spec_l1Cur_board (call G) 77 [(AV.ptr (Id.l 0) none 0)] [(Id.l 0, bl (cl1Cur ml_0))] k
theorem ko_spec_l1Cur_board {γ : Type} (ml_0 : Dl1Cur) {Q : DBoard × Dl1Cur → Prop} (h : ∃ v, A_spec_l1Cur_board ml_0 = some (en_spec_l1Cur_board v) ∧ Q v) {k : DBoard × Dl1Cur → Option γ} {Q' : γ → Prop} (hk : ∀ v, Q v → OK (k v) Q') : OK (cl_spec_l1Cur_board ml_0 k) Q' := cl_ok inj_spec_l1Cur_board h hk
noncomputable def A_spec_l1Cur_anyRules (ml_0 : Dl1Cur) : Option R := call G 78 [(AV.ptr (Id.l 0) none 0)] [(Id.l 0, bl (cl1Cur ml_0))]
def en_spec_l1Cur_anyRules : DRules × Dl1Cur → R := fun (a : DRules × Dl1Cur) => (AV.agg (cRules a.fst), [(Id.l 0, bl (cl1Cur a.snd))])
theorem inj_spec_l1Cur_anyRules : Inj en_spec_l1Cur_anyRules := fun a b h => by
  simpa [en_spec_l1Cur_anyRules, Prod.ext_iff, and_assoc] using h
noncomputable def cl_spec_l1Cur_anyRules {γ : Type} (ml_0 : Dl1Cur) (k : DRules × Dl1Cur → Option γ) : Option γ := cl en_spec_l1Cur_anyRules (call G) 78 [(AV.ptr (Id.l 0) none 0)] [(Id.l 0, bl (cl1Cur ml_0))] k
theorem ko_spec_l1Cur_anyRules {γ : Type} (ml_0 : Dl1Cur) {Q : DRules × Dl1Cur → Prop} (h : ∃ v, A_spec_l1Cur_anyRules ml_0 = some (en_spec_l1Cur_anyRules v) ∧ Q v) {k : DRules × Dl1Cur → Option γ} {Q' : γ → Prop} (hk : ∀ v, Q v → OK (k v) Q') : OK (cl_spec_l1Cur_anyRules ml_0 k) Q' := cl_ok inj_spec_l1Cur_anyRules h hk
def en_spec_l1Cur_anyMap : DMap × Dl1Cur → R := fun (a : DMap × Dl1Cur) => (AV.agg (cMap a.fst), [(Id.l 0, bl (cl1Cur a.snd))])
theorem inj_spec_l1Cur_anyMap : Inj en_spec_l1Cur_anyMap := fun a b h => by
  simpa [en_spec_l1Cur_anyMap, Prod.ext_iff, and_assoc] using h
noncomputable def cl_spec_l1Cur_anyMap {γ : Type} (ml_0 : Dl1Cur) (k : DMap × Dl1Cur → Option γ) : Option γ := cl en_spec_l1Cur_anyMap (call G) 79 [(AV.ptr (Id.l 0) none 0)] [(Id.l 0, bl (cl1Cur ml_0))] k
theorem ko_spec_l1Cur_anyMap {γ : Type} (ml_0 : Dl1Cur) {Q : DMap × Dl1Cur → Prop} (h : ∃ v, A_spec_l1Cur_anyMap ml_0 = some (en_spec_l1Cur_anyMap v) ∧ Q v) {k : DMap × Dl1Cur → Option γ} {Q' : γ → Prop} (hk : ∀ v, Q v → OK (k v) Q') : OK (cl_spec_l1Cur_anyMap ml_0 k) Q' := cl_ok inj_spec_l1Cur_anyMap h hk
def en_spec_l1Cur_next : Int × Dl1Cur → R := fun (a : Int × Dl1Cur) => (I a.fst, [(Id.l 0, bl (cl1Cur a.snd))])
theorem inj_spec_l1Cur_next : Inj en_spec_l1Cur_next := fun a b h => by
  simpa [en_spec_l1Cur_next, Prod.ext_iff, and_assoc] using h
noncomputable def cl_spec_l1Cur_next {γ : Type} (ml_0 : Dl1Cur) (k : Int × Dl1Cur → Option γ) : Option γ := cl en_spec_l1Cur_next (call G) 60 [(AV.ptr (Id.l 0) none 0)] [(Id.l 0, bl (cl1Cur ml_0))] k
theorem ko_spec_l1Cur_next {γ : Type} (ml_0 : Dl1Cur) {Q : Int × Dl1Cur → Prop} (h : ∃ v, A_spec_l1Cur_next ml_0 = some (en_spec_l1Cur_next v) ∧ Q v) {k : Int × Dl1Cur → Option γ} {Q' : γ → Prop} (hk : ∀ v, Q v → OK (k v) Q') : OK (cl_spec_l1Cur_next ml_0 k) Q' := cl_ok inj_spec_l1Cur_next h hk
noncomputable def A_spec_l1Cur_anyState (ml_0 : Dl1Cur) (b1 : DBoard) : Option R := call G 55 [(AV.ptr (Id.l 0) none 0), (.agg (cBoard b1))] [(Id.l 0, bl (cl1Cur ml_0))]
def en_spec_l1Cur_anyState : DState × Dl1Cur → R := fun (a : DState × Dl1Cur) => (AV.agg [I a.fst.Turn, I a.fst.Weather, AV.own (Id.r 0 0) none 0 (List.length a.fst.Units) (List.length a.fst.Units)], [(Id.l 0, bl (cl1Cur a.snd)), (Id.r 0 0, some (rowB true false 4 cUnit a.fst.Units))])
theorem inj_spec_l1Cur_anyState : Inj en_spec_l1Cur_anyState := fun a b h => by
  first | (simpa [en_spec_l1Cur_anyState, Prod.ext_iff, and_assoc] using h) | (obtain ⟨⟨_, _, _⟩, _⟩ := a; obtain ⟨⟨_, _, _⟩, _⟩ := b; simp [en_spec_l1Cur_anyState] at h ⊢; simp_all; done) | (obtain ⟨⟨_, _, _⟩, _⟩ := a; obtain ⟨⟨_, _, _⟩, _⟩ := b; simp [en_spec_l1Cur_anyState] at h; obtain ⟨h1, h2⟩ := h; have h3 := List.append_inj h2.2.2 h1.2.1.1; simp_all) | (obtain ⟨⟨_, _, _⟩, _⟩ := a; obtain ⟨⟨_, _, _⟩, _⟩ := b; simp [en_spec_l1Cur_anyState] at h; obtain ⟨h1, h2⟩ := h; have h3 := List.append_inj h2.2 h1.1; simp_all)
noncomputable def cl_spec_l1Cur_anyState {γ : Type} (ml_0 : Dl1Cur) (b1 : DBoard) (k : DState × Dl1Cur → Option γ) : Option γ := cl en_spec_l1Cur_anyState (call G) 55 [(AV.ptr (Id.l 0) none 0), (.agg (cBoard b1))] [(Id.l 0, bl (cl1Cur ml_0))] k
theorem ko_spec_l1Cur_anyState {γ : Type} (ml_0 : Dl1Cur) (b1 : DBoard) {Q : DState × Dl1Cur → Prop} (h : ∃ v, A_spec_l1Cur_anyState ml_0 b1 = some (en_spec_l1Cur_anyState v) ∧ Q v) {k : DState × Dl1Cur → Option γ} {Q' : γ → Prop} (hk : ∀ v, Q v → OK (k v) Q') : OK (cl_spec_l1Cur_anyState ml_0 b1 k) Q' := cl_ok inj_spec_l1Cur_anyState h hk
noncomputable def A_spec_l1Cur_rules (ml_0 : Dl1Cur) : Option R := call G 93 [(AV.ptr (Id.l 0) none 0)] [(Id.l 0, bl (cl1Cur ml_0))]
noncomputable def A_impl_distance (a0 : DHex) (b1 : DHex) : Option R := call G 34 [(.agg (cHex a0)), (.agg (cHex b1))] []
def en_impl_distance : Int → R := fun (a : Int) => (I a, [])
theorem inj_impl_distance : Inj en_impl_distance := fun a b h => by
  first | (simpa [en_impl_distance, Prod.ext_iff, and_assoc] using h) | (obtain _ := a; obtain _ := b; simp [en_impl_distance] at h ⊢; simp_all; done) | (obtain _ := a; obtain _ := b; simp [en_impl_distance] at h; obtain ⟨h1, h2⟩ := h; have h3 := List.append_inj h2.2.2 h1.2.1.1; simp_all) | (obtain _ := a; obtain _ := b; simp [en_impl_distance] at h; obtain ⟨h1, h2⟩ := h; have h3 := List.append_inj h2.2 h1.1; simp_all)
noncomputable def cl_impl_distance {γ : Type} (a0 : DHex) (b1 : DHex) (k : Int → Option γ) : Option γ := cl en_impl_distance (call G) 34 [(.agg (cHex a0)), (.agg (cHex b1))] [] k
theorem k_impl_distance {γ : Type} (a0 : DHex) (b1 : DHex) {v : Int} (h : A_impl_distance a0 b1 = some (en_impl_distance v)) (k : Int → Option γ) : cl_impl_distance a0 b1 k = k v := cl_eq inj_impl_distance h k
noncomputable def A_spec_bTerrain (b0 : DBoard) (i1 : Int) : Option R := call G 90 [(.agg (cBoard b0)), (I i1)] []
def en_spec_bTerrain : DTerrain → R := fun (a : DTerrain) => (AV.agg (cTerrain a), [])
theorem inj_spec_bTerrain : Inj en_spec_bTerrain := fun a b h => by
  simpa [en_spec_bTerrain, Prod.ext_iff, and_assoc] using h
noncomputable def cl_spec_bTerrain {γ : Type} (b0 : DBoard) (i1 : Int) (k : DTerrain → Option γ) : Option γ := cl en_spec_bTerrain (call G) 90 [(.agg (cBoard b0)), (I i1)] [] k
theorem k_spec_bTerrain {γ : Type} (b0 : DBoard) (i1 : Int) {v : DTerrain} (h : A_spec_bTerrain b0 i1 = some (en_spec_bTerrain v)) (k : DTerrain → Option γ) : cl_spec_bTerrain b0 i1 k = k v := cl_eq inj_spec_bTerrain h k
noncomputable def A_spec_l1Cur_of (ml_0 : Dl1Cur) (list1 : List ByteArray) : Option R := call G 95 [(AV.ptr (Id.l 0) none 0), (slc cS list1)] [(Id.l 0, bl (cl1Cur ml_0))]
def en_spec_l1Cur_state : DState × Dl1Cur → R := fun (a : DState × Dl1Cur) => (AV.agg [I a.fst.Turn, I a.fst.Weather, AV.own (Id.r 0 0) none 0 (List.length a.fst.Units) (List.length a.fst.Units)], [(Id.l 0, bl (cl1Cur a.snd)), (Id.r 0 0, some (rowB true false 4 cUnit a.fst.Units))])
theorem inj_spec_l1Cur_state : Inj en_spec_l1Cur_state := fun a b h => by
  first | (simpa [en_spec_l1Cur_state, Prod.ext_iff, and_assoc] using h) | (obtain ⟨⟨_, _, _⟩, _⟩ := a; obtain ⟨⟨_, _, _⟩, _⟩ := b; simp [en_spec_l1Cur_state] at h ⊢; simp_all; done) | (obtain ⟨⟨_, _, _⟩, _⟩ := a; obtain ⟨⟨_, _, _⟩, _⟩ := b; simp [en_spec_l1Cur_state] at h; obtain ⟨h1, h2⟩ := h; have h3 := List.append_inj h2.2.2 h1.2.1.1; simp_all) | (obtain ⟨⟨_, _, _⟩, _⟩ := a; obtain ⟨⟨_, _, _⟩, _⟩ := b; simp [en_spec_l1Cur_state] at h; obtain ⟨h1, h2⟩ := h; have h3 := List.append_inj h2.2 h1.1; simp_all)
noncomputable def cl_spec_l1Cur_state {γ : Type} (ml_0 : Dl1Cur) (b1 : DBoard) (k : DState × Dl1Cur → Option γ) : Option γ := cl en_spec_l1Cur_state (call G) 81 [(AV.ptr (Id.l 0) none 0), (.agg (cBoard b1))] [(Id.l 0, bl (cl1Cur ml_0))] k
theorem ko_spec_l1Cur_state {γ : Type} (ml_0 : Dl1Cur) (b1 : DBoard) {Q : DState × Dl1Cur → Prop} (h : ∃ v, A_spec_l1Cur_state ml_0 b1 = some (en_spec_l1Cur_state v) ∧ Q v) {k : DState × Dl1Cur → Option γ} {Q' : γ → Prop} (hk : ∀ v, Q v → OK (k v) Q') : OK (cl_spec_l1Cur_state ml_0 b1 k) Q' := cl_ok inj_spec_l1Cur_state h hk
noncomputable def A_slices_ContainsFunc_int_of_impl_goodTerrain_1 (s0 : List Int) : Option R := call G 66 [(slc cI s0), (.clo 117 [])] []
def en_slices_ContainsFunc_int_of_impl_goodTerrain_1 : Bool → R := fun (a : Bool) => (B a, [])
theorem inj_slices_ContainsFunc_int_of_impl_goodTerrain_1 : Inj en_slices_ContainsFunc_int_of_impl_goodTerrain_1 := fun a b h => by
  simpa [en_slices_ContainsFunc_int_of_impl_goodTerrain_1, Prod.ext_iff, and_assoc] using h
noncomputable def cl_slices_ContainsFunc_int_of_impl_goodTerrain_1 {γ : Type} (s0 : List Int) (k : Bool → Option γ) : Option γ := cl en_slices_ContainsFunc_int_of_impl_goodTerrain_1 (call G) 66 [(slc cI s0), (.clo 117 [])] [] k
theorem k_slices_ContainsFunc_int_of_impl_goodTerrain_1 {γ : Type} (s0 : List Int) {v : Bool} (h : A_slices_ContainsFunc_int_of_impl_goodTerrain_1 s0 = some (en_slices_ContainsFunc_int_of_impl_goodTerrain_1 v)) (k : Bool → Option γ) : cl_slices_ContainsFunc_int_of_impl_goodTerrain_1 s0 k = k v := cl_eq inj_slices_ContainsFunc_int_of_impl_goodTerrain_1 h k
def en_spec_l1Cur_edges : List Int × Dl1Cur → R := fun (a : List Int × Dl1Cur) => (AV.own (Id.r 0 0) none 0 (List.length a.fst) (List.length a.fst), [(Id.l 0, bl (cl1Cur a.snd)), (Id.r 0 0, some (rowB true false 1 cI a.fst))])
theorem inj_spec_l1Cur_edges : Inj en_spec_l1Cur_edges := fun a b h => by
  first | (simpa [en_spec_l1Cur_edges, Prod.ext_iff, and_assoc] using h) | (obtain ⟨_, _⟩ := a; obtain ⟨_, _⟩ := b; simp [en_spec_l1Cur_edges] at h ⊢; simp_all; done) | (obtain ⟨_, _⟩ := a; obtain ⟨_, _⟩ := b; simp [en_spec_l1Cur_edges] at h; obtain ⟨h1, h2⟩ := h; have h3 := List.append_inj h2.2.2 h1.2.1.1; simp_all) | (obtain ⟨_, _⟩ := a; obtain ⟨_, _⟩ := b; simp [en_spec_l1Cur_edges] at h; obtain ⟨h1, h2⟩ := h; have h3 := List.append_inj h2.2 h1.1; simp_all)
noncomputable def cl_spec_l1Cur_edges {γ : Type} (ml_0 : Dl1Cur) (m1 : DMap) (k : List Int × Dl1Cur → Option γ) : Option γ := cl en_spec_l1Cur_edges (call G) 104 [(AV.ptr (Id.l 0) none 0), (.agg (cMap m1))] [(Id.l 0, bl (cl1Cur ml_0))] k
theorem ko_spec_l1Cur_edges {γ : Type} (ml_0 : Dl1Cur) (m1 : DMap) {Q : List Int × Dl1Cur → Prop} (h : ∃ v, A_spec_l1Cur_edges ml_0 m1 = some (en_spec_l1Cur_edges v) ∧ Q v) {k : List Int × Dl1Cur → Option γ} {Q' : γ → Prop} (hk : ∀ v, Q v → OK (k v) Q') : OK (cl_spec_l1Cur_edges ml_0 m1 k) Q' := cl_ok inj_spec_l1Cur_edges h hk
noncomputable def A_slices_IndexFunc_int_of_impl_goodTerrain_1 (s0 : List Int) : Option R := call G 86 [(slc cI s0), (.clo 117 [])] []
def en_slices_IndexFunc_int_of_impl_goodTerrain_1 : Int → R := fun (a : Int) => (I a, [])
theorem inj_slices_IndexFunc_int_of_impl_goodTerrain_1 : Inj en_slices_IndexFunc_int_of_impl_goodTerrain_1 := fun a b h => by
  simpa [en_slices_IndexFunc_int_of_impl_goodTerrain_1, Prod.ext_iff, and_assoc] using h
noncomputable def cl_slices_IndexFunc_int_of_impl_goodTerrain_1 {γ : Type} (s0 : List Int) (k : Int → Option γ) : Option γ := cl en_slices_IndexFunc_int_of_impl_goodTerrain_1 (call G) 86 [(slc cI s0), (.clo 117 [])] [] k
theorem k_slices_IndexFunc_int_of_impl_goodTerrain_1 {γ : Type} (s0 : List Int) {v : Int} (h : A_slices_IndexFunc_int_of_impl_goodTerrain_1 s0 = some (en_slices_IndexFunc_int_of_impl_goodTerrain_1 v)) (k : Int → Option γ) : cl_slices_IndexFunc_int_of_impl_goodTerrain_1 s0 k = k v := cl_eq inj_slices_IndexFunc_int_of_impl_goodTerrain_1 h k
noncomputable def A_impl_goodTerrain_1 (c0 : Int) : Option R := call G 117 [(I c0)] []
def en_impl_goodTerrain_1 : Bool → R := fun (a : Bool) => (B a, [])
theorem inj_impl_goodTerrain_1 : Inj en_impl_goodTerrain_1 := fun a b h => by
  simpa [en_impl_goodTerrain_1, Prod.ext_iff, and_assoc] using h
noncomputable def cl_impl_goodTerrain_1 {γ : Type} (c0 : Int) (k : Bool → Option γ) : Option γ := cl en_impl_goodTerrain_1 (call G) 117 [(I c0)] [] k
theorem k_impl_goodTerrain_1 {γ : Type} (c0 : Int) {v : Bool} (h : A_impl_goodTerrain_1 c0 = some (en_impl_goodTerrain_1 v)) (k : Bool → Option γ) : cl_impl_goodTerrain_1 c0 k = k v := cl_eq inj_impl_goodTerrain_1 h k
noncomputable def A_impl_controls (b0 : DBoard) (u1 : DUnit) (i2 : Int) : Option R := call G 87 [(.agg (cBoard b0)), (.agg (cUnit u1)), (I i2)] []
def en_impl_controls : Bool → R := fun (a : Bool) => (B a, [])
theorem inj_impl_controls : Inj en_impl_controls := fun a b h => by
  simpa [en_impl_controls, Prod.ext_iff, and_assoc] using h
noncomputable def cl_impl_controls {γ : Type} (b0 : DBoard) (u1 : DUnit) (i2 : Int) (k : Bool → Option γ) : Option γ := cl en_impl_controls (call G) 87 [(.agg (cBoard b0)), (.agg (cUnit u1)), (I i2)] [] k
theorem k_impl_controls {γ : Type} (b0 : DBoard) (u1 : DUnit) (i2 : Int) {v : Bool} (h : A_impl_controls b0 u1 i2 = some (en_impl_controls v)) (k : Bool → Option γ) : cl_impl_controls b0 u1 i2 k = k v := cl_eq inj_impl_controls h k
noncomputable def A_impl_edgeOf (m0 : DMap) (i1 : Int) (d2 : Int) : Option R := call G 102 [(.agg (cMap m0)), (I i1), (I d2)] []
def en_impl_edgeOf : Int → R := fun (a : Int) => (I a, [])
theorem inj_impl_edgeOf : Inj en_impl_edgeOf := fun a b h => by
  simpa [en_impl_edgeOf, Prod.ext_iff, and_assoc] using h
noncomputable def cl_impl_edgeOf {γ : Type} (m0 : DMap) (i1 : Int) (d2 : Int) (k : Int → Option γ) : Option γ := cl en_impl_edgeOf (call G) 102 [(.agg (cMap m0)), (I i1), (I d2)] [] k
theorem k_impl_edgeOf {γ : Type} (m0 : DMap) (i1 : Int) (d2 : Int) {v : Int} (h : A_impl_edgeOf m0 i1 d2 = some (en_impl_edgeOf v)) (k : Int → Option γ) : cl_impl_edgeOf m0 i1 d2 k = k v := cl_eq inj_impl_edgeOf h k
def en_spec_l1Cur_rules : (DRules × List DKind) × Dl1Cur → R := fun (a : (DRules × List DKind) × Dl1Cur) => (AV.agg [AV.own (Id.r 0 0) none 0 (List.length a.fst.fst.Terrains) (List.length a.fst.fst.Terrains), AV.own (Id.r 0 1) none 0 (List.length a.fst.fst.Kinds) (List.length a.fst.fst.Kinds + List.length a.fst.snd), I a.fst.fst.Stack, I a.fst.fst.River, I a.fst.fst.Road, I a.fst.fst.Supply, I a.fst.fst.Turns], [(Id.l 0, bl (cl1Cur a.snd)), (Id.r 0 0, some (rowB true true 5 cTerrainN a.fst.fst.Terrains)), (Id.r 0 1, some (rowB true false 6 cKind (a.fst.fst.Kinds ++ a.fst.snd)))])
theorem inj_spec_l1Cur_rules : Inj en_spec_l1Cur_rules := fun a b h => by
  first | (simpa [en_spec_l1Cur_rules, Prod.ext_iff, and_assoc] using h) | (obtain ⟨⟨⟨_, _, _, _, _, _, _⟩, _⟩, _⟩ := a; obtain ⟨⟨⟨_, _, _, _, _, _, _⟩, _⟩, _⟩ := b; simp [en_spec_l1Cur_rules] at h ⊢; simp_all; done) | (obtain ⟨⟨⟨_, _, _, _, _, _, _⟩, _⟩, _⟩ := a; obtain ⟨⟨⟨_, _, _, _, _, _, _⟩, _⟩, _⟩ := b; simp [en_spec_l1Cur_rules] at h; obtain ⟨h1, h2⟩ := h; have h3 := List.append_inj h2.2.2 h1.2.1.1; simp_all) | (obtain ⟨⟨⟨_, _, _, _, _, _, _⟩, _⟩, _⟩ := a; obtain ⟨⟨⟨_, _, _, _, _, _, _⟩, _⟩, _⟩ := b; simp [en_spec_l1Cur_rules] at h; obtain ⟨h1, h2⟩ := h; have h3 := List.append_inj h2.2 h1.1; simp_all)
noncomputable def cl_spec_l1Cur_rules {γ : Type} (ml_0 : Dl1Cur) (k : (DRules × List DKind) × Dl1Cur → Option γ) : Option γ := cl en_spec_l1Cur_rules (call G) 93 [(AV.ptr (Id.l 0) none 0)] [(Id.l 0, bl (cl1Cur ml_0))] k
theorem ko_spec_l1Cur_rules {γ : Type} (ml_0 : Dl1Cur) {Q : (DRules × List DKind) × Dl1Cur → Prop} (h : ∃ v, A_spec_l1Cur_rules ml_0 = some (en_spec_l1Cur_rules v) ∧ Q v) {k : (DRules × List DKind) × Dl1Cur → Option γ} {Q' : γ → Prop} (hk : ∀ v, Q v → OK (k v) Q') : OK (cl_spec_l1Cur_rules ml_0 k) Q' := cl_ok inj_spec_l1Cur_rules h hk
def en_spec_l1Cur_of : ByteArray × Dl1Cur → R := fun (a : ByteArray × Dl1Cur) => (S a.fst, [(Id.l 0, bl (cl1Cur a.snd))])
theorem inj_spec_l1Cur_of : Inj en_spec_l1Cur_of := fun a b h => by
  simpa [en_spec_l1Cur_of, Prod.ext_iff, and_assoc] using h
noncomputable def cl_spec_l1Cur_of {γ : Type} (ml_0 : Dl1Cur) (list1 : List ByteArray) (k : ByteArray × Dl1Cur → Option γ) : Option γ := cl en_spec_l1Cur_of (call G) 95 [(AV.ptr (Id.l 0) none 0), (slc cS list1)] [(Id.l 0, bl (cl1Cur ml_0))] k
theorem ko_spec_l1Cur_of {γ : Type} (ml_0 : Dl1Cur) (list1 : List ByteArray) {Q : ByteArray × Dl1Cur → Prop} (h : ∃ v, A_spec_l1Cur_of ml_0 list1 = some (en_spec_l1Cur_of v) ∧ Q v) {k : ByteArray × Dl1Cur → Option γ} {Q' : γ → Prop} (hk : ∀ v, Q v → OK (k v) Q') : OK (cl_spec_l1Cur_of ml_0 list1 k) Q' := cl_ok inj_spec_l1Cur_of h hk
noncomputable def A_slices_IndexFunc_Kind_of_impl_kindIndex_1 (ml_0f0 : ByteArray) (s0 : List DKind) : Option R := call G 120 [(slc cKind s0), (.clo 121 [(AV.ptr (Id.l 0) none 0)])] [(Id.l 0, some ⟨false, false, false, 0, [(S ml_0f0)]⟩)]
def en_slices_IndexFunc_Kind_of_impl_kindIndex_1 : Int × ByteArray → R := fun (a : Int × ByteArray) => (I a.fst, [(Id.l 0, bl [S a.snd])])
theorem inj_slices_IndexFunc_Kind_of_impl_kindIndex_1 : Inj en_slices_IndexFunc_Kind_of_impl_kindIndex_1 := fun a b h => by
  simpa [en_slices_IndexFunc_Kind_of_impl_kindIndex_1, Prod.ext_iff, and_assoc] using h
noncomputable def cl_slices_IndexFunc_Kind_of_impl_kindIndex_1 {γ : Type} (ml_0f0 : ByteArray) (s0 : List DKind) (k : Int × ByteArray → Option γ) : Option γ := cl en_slices_IndexFunc_Kind_of_impl_kindIndex_1 (call G) 120 [(slc cKind s0), (.clo 121 [(AV.ptr (Id.l 0) none 0)])] [(Id.l 0, some ⟨false, false, false, 0, [(S ml_0f0)]⟩)] k
theorem k_slices_IndexFunc_Kind_of_impl_kindIndex_1 {γ : Type} (ml_0f0 : ByteArray) (s0 : List DKind) {v : Int × ByteArray} (h : A_slices_IndexFunc_Kind_of_impl_kindIndex_1 ml_0f0 s0 = some (en_slices_IndexFunc_Kind_of_impl_kindIndex_1 v)) (k : Int × ByteArray → Option γ) : cl_slices_IndexFunc_Kind_of_impl_kindIndex_1 ml_0f0 s0 k = k v := cl_eq inj_slices_IndexFunc_Kind_of_impl_kindIndex_1 h k
noncomputable def A_impl_kindIndex_1 (ml_0f0 : ByteArray) (k0 : DKind) : Option R := call G 121 [(.agg (cKind k0)), (AV.ptr (Id.l 0) none 0)] [(Id.l 0, some ⟨false, false, false, 0, [(S ml_0f0)]⟩)]
def en_impl_kindIndex_1 : Bool × ByteArray → R := fun (a : Bool × ByteArray) => (B a.fst, [(Id.l 0, bl [S a.snd])])
theorem inj_impl_kindIndex_1 : Inj en_impl_kindIndex_1 := fun a b h => by
  simpa [en_impl_kindIndex_1, Prod.ext_iff, and_assoc] using h
noncomputable def cl_impl_kindIndex_1 {γ : Type} (ml_0f0 : ByteArray) (k0 : DKind) (k : Bool × ByteArray → Option γ) : Option γ := cl en_impl_kindIndex_1 (call G) 121 [(.agg (cKind k0)), (AV.ptr (Id.l 0) none 0)] [(Id.l 0, some ⟨false, false, false, 0, [(S ml_0f0)]⟩)] k
theorem k_impl_kindIndex_1 {γ : Type} (ml_0f0 : ByteArray) (k0 : DKind) {v : Bool × ByteArray} (h : A_impl_kindIndex_1 ml_0f0 k0 = some (en_impl_kindIndex_1 v)) (k : Bool × ByteArray → Option γ) : cl_impl_kindIndex_1 ml_0f0 k0 k = k v := cl_eq inj_impl_kindIndex_1 h k
end Go.Ev
