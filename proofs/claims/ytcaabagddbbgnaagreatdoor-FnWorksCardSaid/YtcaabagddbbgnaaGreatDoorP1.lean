/-
  P1: one of the texts behind a proof of laws.FnWorks: how each function that is reached is called; what its result is
  Its conditions: none of its own.
-/
import Derived.Test.YtcaabagddbbgnaaGreatDoorEd
set_option maxRecDepth 100000
set_option linter.unusedVariables false
set_option linter.unusedSectionVars false
set_option linter.unusedSimpArgs false
set_option linter.unnecessarySimpa false
namespace Go.Ev
open Go Go.Proofs
variable [Inhabited Known]
noncomputable def L_spec_pdWithout_L3 (mh_5_1 : List Int) (mh_4_0f0 : Int) (mh_4_0f1 : Int) (mh_4_0f2 : Int) (mh_5_0f0 : Int) (mh_5_0f1 : Int) (mh_5_0f2 : Int) (k1 : Int) (x16 : List Int) (x17 : Int) (x18 : Int) : Option R := lpK G T 47 Tryz.f47 [1, 1, 0, 1, 0] (js 1 ((I k1) :: js 2 ((AV.ptr (Id.h 4 0) none 0) :: (AV.ptr (Id.h 5 0) none 0) :: js 10 ((slc cI x16) :: (I x17) :: (I x18) :: js 15 [])))) [(Id.h 4 0, some ⟨false, true, false, 0, [(I mh_4_0f0), (I mh_4_0f1), (I mh_4_0f2), .emp]⟩), (Id.h 5 0, some ⟨false, true, false, 0, [(I mh_5_0f0), (I mh_5_0f1), (I mh_5_0f2), (.own (Id.h 5 1) none 0 mh_5_1.length mh_5_1.length)]⟩), (Id.h 5 1, some (rowB true false 1 cI mh_5_1))]
noncomputable def L_slices_IndexFunc_Kind_of_impl_kindIndex_1_L2 (ml_0f0 : ByteArray) (s0 : List DKind) (x7 : Int) (x8 : Int) : Option R := lpK G T 99 Tryz.f99 [1, 0, 1, 0] ((slc cKind s0) :: (.clo 100 [(AV.ptr (Id.l 0) none 0)]) :: js 5 ((I x7) :: (I x8) :: js 10 [])) [(Id.l 0, some ⟨false, false, false, 0, [(S ml_0f0)]⟩)]
noncomputable def L_spec_rGood_L4 (mh_1_0 : DRules) (x20 : List DTerrain) (x21 : Int) (x22 : Int) : Option R := lpK G T 86 Tryz.f86 [1, 1, 0, 1, 0] (js 1 ((AV.ptr (Id.h 1 0) none 0) :: js 18 ((slc cTerrain x20) :: (I x21) :: (I x22) :: js 114 []))) [(Id.h 1 0, some ⟨false, true, false, 0, cRules mh_1_0⟩)]
noncomputable def L_spec_zSources_L3 (mh_9_0 : List Int) (mh_4_0 : DBoard) (mh_5_0 : DState) (side2 : Int) (i3 : Int) (x13 : List DUnit) (x14 : Int) (x15 : Int) : Option R := lpK G T 94 Tryz.f94 [1, 1, 0, 1, 0] (js 2 ((I side2) :: (I i3) :: (AV.ptr (Id.h 4 0) none 0) :: (AV.ptr (Id.h 5 0) none 0) :: js 3 ((.own (Id.h 9 0) none 0 mh_9_0.length mh_9_0.length) :: js 3 ((slc cUnit x13) :: (I x14) :: (I x15) :: js 21 [])))) [(Id.h 4 0, some ⟨false, true, false, 0, cBoard mh_4_0⟩), (Id.h 5 0, some ⟨false, true, false, 0, cState mh_5_0⟩), (Id.h 9 0, some (rowB true false 1 cI mh_9_0))]
noncomputable def L_spec_rGood_L10 (mh_1_0 : DRules) (x69 : List DKind) (x70 : Int) (x71 : Int) : Option R := lpK G T 86 Tryz.f86 [1, 1, 1, 0, 1, 0] (js 1 ((AV.ptr (Id.h 1 0) none 0) :: js 67 ((slc cKind x69) :: (I x70) :: (I x71) :: js 65 []))) [(Id.h 1 0, some ⟨false, true, false, 0, cRules mh_1_0⟩)]
noncomputable def L_slices_IndexFunc_int_of_impl_IsBoard_1_L2 (ml_0 : DBoard) (s0 : List Int) (x7 : Int) (x8 : Int) : Option R := lpK G T 81 Tryz.f81 [1, 0, 1, 0] ((slc cI s0) :: (.clo 54 [(AV.ptr (Id.l 0) none 0)]) :: js 5 ((I x7) :: (I x8) :: js 10 [])) [(Id.l 0, some ⟨false, false, false, 0, cBoard ml_0⟩)]
noncomputable def L_impl_ProduceTurns_L5 (mh_14_1 : List DUnit) (mh_5_0 : DBoard) (mh_10_0f0 : Int) (mh_10_0f1 : Int) (mh_11_0f0 : Int) (mh_11_0f1 : Int) (mh_11_0f2 : Int) (mh_14_0f0 : Int) (mh_14_0f1 : Int) (mh_15_0 : DWorks) (income3 : Int) (many16 : Int) (x41 : Int) (x42 : Int) : Option R := lpK G T 8 Tryz.f8 [1, 1, 1, 0, 1, 0] (js 3 ((I income3) :: js 1 ((AV.ptr (Id.h 5 0) none 0) :: js 4 ((AV.ptr (Id.h 10 0) none 0) :: (AV.ptr (Id.h 11 0) none 0) :: js 2 ((AV.ptr (Id.h 14 0) none 0) :: (AV.ptr (Id.h 15 0) none 0) :: (I many16) :: js 24 ((I x41) :: (I x42) :: js 20 [])))))) [(Id.h 5 0, some ⟨false, true, false, 0, cBoard mh_5_0⟩), (Id.h 10 0, some ⟨false, true, false, 0, [(I mh_10_0f0), (I mh_10_0f1), .emp]⟩), (Id.h 11 0, some ⟨false, true, false, 0, [(I mh_11_0f0), (I mh_11_0f1), (I mh_11_0f2), .emp]⟩), (Id.h 14 0, some ⟨false, true, false, 0, [(I mh_14_0f0), (I mh_14_0f1), (.own (Id.h 14 1) none 0 mh_14_1.length mh_14_1.length)]⟩), (Id.h 14 1, some (rowB true false 4 cUnit mh_14_1)), (Id.h 15 0, some ⟨false, true, false, 0, cWorks mh_15_0⟩)]
noncomputable def L_impl_controls_L4 (mh_3_0 : DBoard) (mh_4_0 : DUnit) (i2 : Int) (x30 : Int) : Option R := lpK G T 92 Tryz.f92 [1, 1, 0, 1, 0] (js 2 ((I i2) :: (AV.ptr (Id.h 3 0) none 0) :: (AV.ptr (Id.h 4 0) none 0) :: js 25 ((I x30) :: js 20 []))) [(Id.h 3 0, some ⟨false, true, false, 0, cBoard mh_3_0⟩), (Id.h 4 0, some ⟨false, true, false, 0, cUnit mh_4_0⟩)]
noncomputable def L_impl_inZone_L2 (mh_4_0 : DBoard) (side2 : Int) (i3 : Int) (x12 : List DUnit) (x13 : Int) (x14 : Int) : Option R := lpK G T 67 Tryz.f67 [1, 0, 1, 0] (js 2 ((I side2) :: (I i3) :: (AV.ptr (Id.h 4 0) none 0) :: js 7 ((slc cUnit x12) :: (I x13) :: (I x14) :: js 14 []))) [(Id.h 4 0, some ⟨false, true, false, 0, cBoard mh_4_0⟩)]
noncomputable def L_impl_ownerOf_L2 (i1 : Int) (x8 : List DUnit) (x9 : Int) (x10 : Int) : Option R := lpK G T 90 Tryz.f90 [1, 0, 1, 0] (js 1 ((I i1) :: js 6 ((slc cUnit x8) :: (I x9) :: (I x10) :: js 10 []))) []
noncomputable def L_spec_l1Cur_rules_L5 (mh_4_1 : List DTerrain) (mh_4_2 : List DKind) (mh_5_0 : List ByteArray) (ml_0 : Dl1Cur) (mh_2_0f2 : Int) (mh_2_0f3 : Int) (mh_2_0f4 : Int) (mh_2_0f5 : Int) (mh_2_0f6 : Int) (mh_4_0f1o : Nat) (mh_4_0f1n : Nat) (mh_4_0f1k : Nat) (mh_4_0f2 : Int) (mh_4_0f3 : Int) (mh_4_0f4 : Int) (mh_4_0f5 : Int) (mh_4_0f6 : Int) (i6 : Int) : Option R := lpK G T 102 Tryz.f102 [1, 1, 1, 1, 0, 1, 0] ((AV.ptr (Id.l 0) none 0) :: js 1 ((AV.ptr (Id.h 2 0) none 0) :: js 1 ((AV.ptr (Id.h 4 0) none 0) :: (.own (Id.h 5 0) none 0 mh_5_0.length mh_5_0.length) :: (I i6) :: js 108 []))) [(Id.l 0, some ⟨false, false, false, 0, cl1Cur ml_0⟩), (Id.h 2 0, some ⟨false, true, false, 0, [.emp, .emp, (I mh_2_0f2), (I mh_2_0f3), (I mh_2_0f4), (I mh_2_0f5), (I mh_2_0f6)]⟩), (Id.h 4 0, some ⟨false, true, false, 0, [(.own (Id.h 4 1) none 0 mh_4_1.length mh_4_1.length), (.own (Id.h 4 2) none mh_4_0f1o mh_4_0f1n mh_4_0f1k), (I mh_4_0f2), (I mh_4_0f3), (I mh_4_0f4), (I mh_4_0f5), (I mh_4_0f6)]⟩), (Id.h 4 1, some (rowB true true 5 cTerrainN mh_4_1)), (Id.h 4 2, some (rowB true false 6 cKind mh_4_2)), (Id.h 5 0, some (rowB true false 1 cS mh_5_0))]
noncomputable def L_spec_l1Cur_rules_L10 (mh_4_1 : List DTerrain) (mh_4_2 : List DKind) (mh_5_0 : List ByteArray) (mh_7_1 : List Int) (ml_0 : Dl1Cur) (mh_2_0f2 : Int) (mh_2_0f3 : Int) (mh_2_0f4 : Int) (mh_2_0f5 : Int) (mh_2_0f6 : Int) (mh_4_0f1o : Nat) (mh_4_0f1n : Nat) (mh_4_0f1k : Nat) (mh_4_0f2 : Int) (mh_4_0f3 : Int) (mh_4_0f4 : Int) (mh_4_0f5 : Int) (mh_4_0f6 : Int) (mh_7_0f0 : ByteArray) (mh_7_0f2 : Int) (mh_7_0f3 : Int) (mh_7_0f4 : Bool) (i6 : Int) (x94 : Int) (x95 : Int) : Option R := lpK G T 102 Tryz.f102 [1, 1, 1, 1, 0, 1, 0, 0, 1, 0, 0, 1, 1, 0, 1, 0] ((AV.ptr (Id.l 0) none 0) :: js 1 ((AV.ptr (Id.h 2 0) none 0) :: js 1 ((AV.ptr (Id.h 4 0) none 0) :: (.own (Id.h 5 0) none 0 mh_5_0.length mh_5_0.length) :: (I i6) :: (AV.ptr (Id.h 7 0) none 0) :: js 86 ((I x94) :: (I x95) :: js 19 [])))) [(Id.l 0, some ⟨false, false, false, 0, cl1Cur ml_0⟩), (Id.h 2 0, some ⟨false, true, false, 0, [.emp, .emp, (I mh_2_0f2), (I mh_2_0f3), (I mh_2_0f4), (I mh_2_0f5), (I mh_2_0f6)]⟩), (Id.h 4 0, some ⟨false, true, false, 0, [(.own (Id.h 4 1) none 0 mh_4_1.length mh_4_1.length), (.own (Id.h 4 2) none mh_4_0f1o mh_4_0f1n mh_4_0f1k), (I mh_4_0f2), (I mh_4_0f3), (I mh_4_0f4), (I mh_4_0f5), (I mh_4_0f6)]⟩), (Id.h 4 1, some (rowB true true 5 cTerrainN mh_4_1)), (Id.h 4 2, some (rowB true false 6 cKind mh_4_2)), (Id.h 5 0, some (rowB true false 1 cS mh_5_0)), (Id.h 7 0, some ⟨false, true, false, 0, [(S mh_7_0f0), (.own (Id.h 7 1) none 0 mh_7_1.length mh_7_1.length), (I mh_7_0f2), (I mh_7_0f3), (B mh_7_0f4)]⟩), (Id.h 7 1, some (rowB true false 1 cI mh_7_1))]
noncomputable def L_slices_IndexFunc_int_of_impl_goodTerrain_1_L2 (s0 : List Int) (x7 : Int) (x8 : Int) : Option R := lpK G T 81 Tryz.f81 [1, 0, 1, 0] ((slc cI s0) :: (.clo 96 []) :: js 5 ((I x7) :: (I x8) :: js 10 [])) []
noncomputable def L_slices_Index_int_L2 (s0 : List Int) (v1 : Int) (x7 : Int) (x8 : Int) : Option R := lpK G T 126 Tryz.f126 [1, 0, 1, 0] ((slc cI s0) :: (I v1) :: js 5 ((I x7) :: (I x8) :: js 10 [])) []
noncomputable def L_spec_l1Cur_anyState_L17 (mh_5_1 : List DUnit) (ml_0 : Dl1Cur) (mh_4_0f0 : Int) (mh_4_0f1 : Int) (mh_5_0f0 : Int) (mh_5_0f1 : Int) : Option R := lpK G T 61 Tryz.f61 [1, 1, 1, 1, 0, 1, 0, 1, 1, 1, 1, 1, 1, 1, 1, 1, 1, 1, 0, 0] ((AV.ptr (Id.l 0) none 0) :: js 3 ((AV.ptr (Id.h 4 0) none 0) :: (AV.ptr (Id.h 5 0) none 0) :: js 85 [])) [(Id.l 0, some ⟨false, false, false, 0, cl1Cur ml_0⟩), (Id.h 4 0, some ⟨false, true, false, 0, [(I mh_4_0f0), (I mh_4_0f1), .emp]⟩), (Id.h 5 0, some ⟨false, true, false, 0, [(I mh_5_0f0), (I mh_5_0f1), (.own (Id.h 5 1) none 0 mh_5_1.length mh_5_1.length)]⟩), (Id.h 5 1, some (rowB true false 4 cUnit mh_5_1))]
noncomputable def L_spec_ProduceTurns_L5 (mh_14_1 : List DUnit) (mh_5_0 : DBoard) (mh_10_0f0 : Int) (mh_10_0f1 : Int) (mh_11_0f0 : Int) (mh_11_0f1 : Int) (mh_11_0f2 : Int) (mh_14_0f0 : Int) (mh_14_0f1 : Int) (mh_15_0 : DWorks) (income3 : Int) (n4 : Int) (built16 : Int) : Option R := lpK G T 9 Tryz.f9 [1, 1, 1, 1, 0, 0] (js 3 ((I income3) :: (I n4) :: (AV.ptr (Id.h 5 0) none 0) :: js 4 ((AV.ptr (Id.h 10 0) none 0) :: (AV.ptr (Id.h 11 0) none 0) :: js 2 ((AV.ptr (Id.h 14 0) none 0) :: (AV.ptr (Id.h 15 0) none 0) :: (I built16) :: js 46 [])))) [(Id.h 5 0, some ⟨false, true, false, 0, cBoard mh_5_0⟩), (Id.h 10 0, some ⟨false, true, false, 0, [(I mh_10_0f0), (I mh_10_0f1), .emp]⟩), (Id.h 11 0, some ⟨false, true, false, 0, [(I mh_11_0f0), (I mh_11_0f1), (I mh_11_0f2), .emp]⟩), (Id.h 14 0, some ⟨false, true, false, 0, [(I mh_14_0f0), (I mh_14_0f1), (.own (Id.h 14 1) none 0 mh_14_1.length mh_14_1.length)]⟩), (Id.h 14 1, some (rowB true false 4 cUnit mh_14_1)), (Id.h 15 0, some ⟨false, true, false, 0, cWorks mh_15_0⟩)]
noncomputable def L_spec_l1Cur_mapOf_L3 (mh_5_1 : List Int) (ml_0 : Dl1Cur) (mh_4_0f0 : Int) (mh_4_0f1 : Int) (mh_5_0f0 : Int) (mh_5_0f1 : Int) (terrains1 : Int) (i6 : Int) : Option R := lpK G T 103 Tryz.f103 [1, 1, 0, 1, 0] ((AV.ptr (Id.l 0) none 0) :: (I terrains1) :: js 2 ((AV.ptr (Id.h 4 0) none 0) :: (AV.ptr (Id.h 5 0) none 0) :: (I i6) :: js 34 [])) [(Id.l 0, some ⟨false, false, false, 0, cl1Cur ml_0⟩), (Id.h 4 0, some ⟨false, true, false, 0, [(I mh_4_0f0), (I mh_4_0f1), .emp, .emp, .emp]⟩), (Id.h 5 0, some ⟨false, true, false, 0, [(I mh_5_0f0), (I mh_5_0f1), (.own (Id.h 5 1) none 0 mh_5_1.length mh_5_1.length), .emp, .emp]⟩), (Id.h 5 1, some (rowB true false 1 cI mh_5_1))]
noncomputable def L_spec_l1Rising_L2 (l0 : List Int) (lo1 : Int) (hi2 : Int) (x9 : List Int) (x10 : Int) (x11 : Int) : Option R := lpK G T 117 Tryz.f117 [1, 0, 1, 0] ((slc cI l0) :: (I lo1) :: (I hi2) :: js 6 ((slc cI x9) :: (I x10) :: (I x11) :: js 23 [])) []
noncomputable def L_laws_qInts_L4 (a0 : List Int) (b1 : List Int) (x12 : Int) (x13 : Int) : Option R := lpK G T 14 Tryz.f14 [1, 1, 0, 1, 0] ((slc cI a0) :: (slc cI b1) :: js 10 ((I x12) :: (I x13) :: js 12 [])) []
noncomputable def L_spec_rTerrain_L2 (name1 : ByteArray) (x7 : List DTerrain) (x8 : Int) (x9 : Int) : Option R := lpK G T 106 Tryz.f106 [1, 0, 1, 0] (js 1 ((S name1) :: js 5 ((slc cTerrain x7) :: (I x8) :: (I x9) :: js 10 []))) []
noncomputable def L_spec_l1All_L2 (lo1 : Int) (hi2 : Int) (x9 : List Int) (x10 : Int) (x11 : Int) : Option R := lpK G T 71 Tryz.f71 [1, 0, 1, 0] (js 1 ((I lo1) :: (I hi2) :: js 6 ((slc cI x9) :: (I x10) :: (I x11) :: js 9 []))) []
noncomputable def L_impl_IsRules_L4 (mh_1_0 : DRules) (x20 : List DTerrain) (x21 : Int) (x22 : Int) : Option R := lpK G T 51 Tryz.f51 [1, 1, 0, 1, 0] (js 1 ((AV.ptr (Id.h 1 0) none 0) :: js 18 ((slc cTerrain x20) :: (I x21) :: (I x22) :: js 64 []))) [(Id.h 1 0, some ⟨false, true, false, 0, cRules mh_1_0⟩)]
noncomputable def L_spec_zExerts_L5 (mh_4_0 : DBoard) (mh_9_0 : DUnit) (i3 : Int) (d10 : Int) : Option R := lpK G T 111 Tryz.f111 [1, 1, 1, 0, 1, 0] (js 3 ((I i3) :: (AV.ptr (Id.h 4 0) none 0) :: js 4 ((AV.ptr (Id.h 9 0) none 0) :: (I d10) :: js 54 []))) [(Id.h 4 0, some ⟨false, true, false, 0, cBoard mh_4_0⟩), (Id.h 9 0, some ⟨false, true, false, 0, cUnit mh_9_0⟩)]
noncomputable def L_spec_sAt_L3 (mh_7_0 : List Int) (i1 : Int) (side2 : Int) (x11 : List DUnit) (x12 : Int) (x13 : Int) : Option R := lpK G T 69 Tryz.f69 [1, 1, 0, 1, 0] (js 1 ((I i1) :: (I side2) :: js 4 ((.own (Id.h 7 0) none 0 mh_7_0.length mh_7_0.length) :: js 3 ((slc cUnit x11) :: (I x12) :: (I x13) :: js 20 [])))) [(Id.h 7 0, some (rowB true false 1 cI mh_7_0))]
noncomputable def L_laws_qUnits_L4 (a0 : List DUnit) (b1 : List DUnit) (x12 : Int) (x13 : Int) : Option R := lpK G T 30 Tryz.f30 [1, 1, 0, 1, 0] ((slc cUnit a0) :: (slc cUnit b1) :: js 10 ((I x12) :: (I x13) :: js 12 [])) []
noncomputable def L_spec_rName_L2 (s0 : ByteArray) (i3 : Int) : Option R := lpK G T 105 Tryz.f105 [1, 0, 1, 0] ((S s0) :: js 2 ((I i3) :: js 19 [])) []
noncomputable def L_spec_rKind_L2 (name1 : ByteArray) (x7 : List DKind) (x8 : Int) (x9 : Int) : Option R := lpK G T 107 Tryz.f107 [1, 0, 1, 0] (js 1 ((S name1) :: js 5 ((slc cKind x7) :: (I x8) :: (I x9) :: js 10 []))) []
noncomputable def L_impl_IsRules_L10 (mh_1_0 : DRules) (x44 : List DKind) (x45 : Int) (x46 : Int) : Option R := lpK G T 51 Tryz.f51 [1, 1, 1, 0, 1, 0] (js 1 ((AV.ptr (Id.h 1 0) none 0) :: js 42 ((slc cKind x44) :: (I x45) :: (I x46) :: js 40 []))) [(Id.h 1 0, some ⟨false, true, false, 0, cRules mh_1_0⟩)]
noncomputable def L_spec_l1Cur_state_L3 (mh_5_1 : List DUnit) (ml_0 : Dl1Cur) (mh_3_0 : DBoard) (mh_4_0f0 : Int) (mh_4_0f1 : Int) (mh_5_0f0 : Int) (mh_5_0f1 : Int) (mh_5_0f2o : Nat) (mh_5_0f2n : Nat) (mh_5_0f2k : Nat) (k6 : Int) : Option R := lpK G T 85 Tryz.f85 [1, 1, 0, 1, 0] ((AV.ptr (Id.l 0) none 0) :: js 2 ((AV.ptr (Id.h 3 0) none 0) :: (AV.ptr (Id.h 4 0) none 0) :: (AV.ptr (Id.h 5 0) none 0) :: (I k6) :: js 66 [])) [(Id.l 0, some ⟨false, false, false, 0, cl1Cur ml_0⟩), (Id.h 3 0, some ⟨false, true, false, 0, cBoard mh_3_0⟩), (Id.h 4 0, some ⟨false, true, false, 0, [(I mh_4_0f0), (I mh_4_0f1), .emp]⟩), (Id.h 5 0, some ⟨false, true, false, 0, [(I mh_5_0f0), (I mh_5_0f1), (.own (Id.h 5 1) none mh_5_0f2o mh_5_0f2n mh_5_0f2k)]⟩), (Id.h 5 1, some (rowB true false 4 cUnit mh_5_1))]
noncomputable def L_spec_l1Cur_works_L6 (mh_5_1 : List Int) (ml_0 : Dl1Cur) (mh_3_0 : DBoard) (mh_4_0f0 : Int) (mh_4_0f1 : Int) (mh_4_0f2 : Int) (mh_5_0f0 : Int) (mh_5_0f1 : Int) (mh_5_0f2 : Int) (k6 : Int) : Option R := lpK G T 37 Tryz.f37 [1, 1, 1, 1, 0, 1, 0] ((AV.ptr (Id.l 0) none 0) :: js 2 ((AV.ptr (Id.h 3 0) none 0) :: (AV.ptr (Id.h 4 0) none 0) :: (AV.ptr (Id.h 5 0) none 0) :: (I k6) :: js 71 [])) [(Id.l 0, some ⟨false, false, false, 0, cl1Cur ml_0⟩), (Id.h 3 0, some ⟨false, true, false, 0, cBoard mh_3_0⟩), (Id.h 4 0, some ⟨false, true, false, 0, [(I mh_4_0f0), (I mh_4_0f1), (I mh_4_0f2), .emp]⟩), (Id.h 5 0, some ⟨false, true, false, 0, [(I mh_5_0f0), (I mh_5_0f1), (I mh_5_0f2), (.own (Id.h 5 1) none 0 mh_5_1.length mh_5_1.length)]⟩), (Id.h 5 1, some (rowB true false 1 cI mh_5_1))]
noncomputable def L_spec_mEdges_L2 (mh_2_0 : DMap) (l1 : List Int) (x7 : List Int) (x8 : Int) (x9 : Int) : Option R := lpK G T 108 Tryz.f108 [1, 0, 1, 0] (js 1 ((slc cI l1) :: (AV.ptr (Id.h 2 0) none 0) :: js 4 ((slc cI x7) :: (I x8) :: (I x9) :: js 26 []))) [(Id.h 2 0, some ⟨false, true, false, 0, cMap mh_2_0⟩)]
noncomputable def L_impl_unitsAt_L3 (mh_5_0 : List Int) (i1 : Int) (x10 : List DUnit) (x11 : Int) (x12 : Int) : Option R := lpK G T 91 Tryz.f91 [1, 1, 0, 1, 0] (js 1 ((I i1) :: js 3 ((.own (Id.h 5 0) none 0 mh_5_0.length mh_5_0.length) :: js 4 ((slc cUnit x10) :: (I x11) :: (I x12) :: js 14 [])))) [(Id.h 5 0, some (rowB true false 1 cI mh_5_0))]
noncomputable def L_impl_isName_L2 (s0 : ByteArray) (i3 : Int) : Option R := lpK G T 95 Tryz.f95 [1, 0, 1, 0] ((S s0) :: js 2 ((I i3) :: js 19 [])) []
noncomputable def L_spec_sOwner_L2 (i1 : Int) (x8 : List DUnit) (x9 : Int) (x10 : Int) : Option R := lpK G T 73 Tryz.f73 [1, 0, 1, 0] (js 1 ((I i1) :: js 6 ((slc cUnit x8) :: (I x9) :: (I x10) :: js 10 []))) []
noncomputable def L_spec_l1Cur_works_L17 (mh_5_1 : List Int) (ml_0 : Dl1Cur) (mh_4_0f0 : Int) (mh_4_0f1 : Int) (mh_4_0f2 : Int) (mh_5_0f0 : Int) (mh_5_0f1 : Int) (mh_5_0f2 : Int) : Option R := lpK G T 37 Tryz.f37 [1, 1, 1, 1, 1, 0, 1, 0, 1, 1, 1, 1, 1, 1, 1, 0, 0] ((AV.ptr (Id.l 0) none 0) :: js 3 ((AV.ptr (Id.h 4 0) none 0) :: (AV.ptr (Id.h 5 0) none 0) :: js 72 [])) [(Id.l 0, some ⟨false, false, false, 0, cl1Cur ml_0⟩), (Id.h 4 0, some ⟨false, true, false, 0, [(I mh_4_0f0), (I mh_4_0f1), (I mh_4_0f2), .emp]⟩), (Id.h 5 0, some ⟨false, true, false, 0, [(I mh_5_0f0), (I mh_5_0f1), (I mh_5_0f2), (.own (Id.h 5 1) none 0 mh_5_1.length mh_5_1.length)]⟩), (Id.h 5 1, some (rowB true false 1 cI mh_5_1))]
noncomputable def L_spec_l1Cur_edges_L3 (mh_5_0 : List Int) (ml_0 : Dl1Cur) (mh_3_0 : DMap) (l5o : Nat) (l5n : Nat) (l5k : Nat) (k6 : Int) : Option R := lpK G T 115 Tryz.f115 [1, 1, 0, 1, 0] ((AV.ptr (Id.l 0) none 0) :: js 2 ((AV.ptr (Id.h 3 0) none 0) :: js 1 ((.own (Id.h 5 0) none l5o l5n l5k) :: (I k6) :: js 26 []))) [(Id.l 0, some ⟨false, false, false, 0, cl1Cur ml_0⟩), (Id.h 3 0, some ⟨false, true, false, 0, cMap mh_3_0⟩), (Id.h 5 0, some (rowB true false 1 cI mh_5_0))]
noncomputable def L_slices_IndexFunc_Terrain_of_impl_terrainIndex_1_L2 (ml_0f0 : ByteArray) (s0 : List DTerrain) (x7 : Int) (x8 : Int) : Option R := lpK G T 97 Tryz.f97 [1, 0, 1, 0] ((slc cTerrain s0) :: (.clo 98 [(AV.ptr (Id.l 0) none 0)]) :: js 5 ((I x7) :: (I x8) :: js 10 [])) [(Id.l 0, some ⟨false, false, false, 0, [(S ml_0f0)]⟩)]
noncomputable def L_spec_l1Put_L2 (ml_0 : List Int) (l0o : Nat) (l0n : Nat) (l0k : Nat) (n1 : Int) (k5 : Int) : Option R := lpK G T 121 Tryz.f121 [1, 1, 0, 0] ((.own (Id.l 0) none l0o l0n l0k) :: (I n1) :: js 3 ((I k5) :: js 42 [])) [(Id.l 0, some (rowB false false 1 cI ml_0))]
noncomputable def L_spec_sGood_L4 (mh_2_0 : DBoard) (mh_3_0 : DState) (x34 : List DUnit) (x35 : Int) (x36 : Int) : Option R := lpK G T 42 Tryz.f42 [1, 1, 0, 1, 0] (js 2 ((AV.ptr (Id.h 2 0) none 0) :: (AV.ptr (Id.h 3 0) none 0) :: js 30 ((slc cUnit x34) :: (I x35) :: (I x36) :: js 43 []))) [(Id.h 2 0, some ⟨false, true, false, 0, cBoard mh_2_0⟩), (Id.h 3 0, some ⟨false, true, false, 0, cState mh_3_0⟩)]
noncomputable def L_impl_IsMap_L4 (mh_1_0 : DMap) (x31 : List Int) (x32 : Int) (x33 : Int) : Option R := lpK G T 52 Tryz.f52 [1, 1, 0, 1, 0] (js 1 ((AV.ptr (Id.h 1 0) none 0) :: js 29 ((slc cI x31) :: (I x32) :: (I x33) :: js 32 []))) [(Id.h 1 0, some ⟨false, true, false, 0, cMap mh_1_0⟩)]
noncomputable def L_impl_increasing_L2 (list0 : List Int) (i3 : Int) : Option R := lpK G T 79 Tryz.f79 [1, 0, 1, 0] ((slc cI list0) :: js 2 ((I i3) :: js 16 [])) []
noncomputable def L_spec_l1Has_L2 (n1 : Int) (x7 : List Int) (x8 : Int) (x9 : Int) : Option R := lpK G T 127 Tryz.f127 [1, 0, 1, 0] (js 1 ((I n1) :: js 5 ((slc cI x7) :: (I x8) :: (I x9) :: js 7 []))) []
noncomputable def L_spec_sGood_L10 (mh_2_0 : DBoard) (mh_3_0 : DState) (x46 : List DUnit) (x47 : Int) (x48 : Int) : Option R := lpK G T 42 Tryz.f42 [1, 1, 1, 0, 1, 0] (js 2 ((AV.ptr (Id.h 2 0) none 0) :: (AV.ptr (Id.h 3 0) none 0) :: js 42 ((slc cUnit x46) :: (I x47) :: (I x48) :: js 31 []))) [(Id.h 2 0, some ⟨false, true, false, 0, cBoard mh_2_0⟩), (Id.h 3 0, some ⟨false, true, false, 0, cState mh_3_0⟩)]
noncomputable def L_impl_goodState_L5 (mh_5_0 : List A2I) (mh_2_0 : DBoard) (there5o : Nat) (there5n : Nat) (there5k : Nat) (x31 : List DUnit) (x32 : Int) (x33 : Int) : Option R := lpK G T 32 Tryz.f32 [1, 1, 1, 0, 1, 0] (js 2 ((AV.ptr (Id.h 2 0) none 0) :: js 2 ((.own (Id.h 5 0) none there5o there5n there5k) :: js 25 ((slc cUnit x31) :: (I x32) :: (I x33) :: js 46 [])))) [(Id.h 2 0, some ⟨false, true, false, 0, cBoard mh_2_0⟩), (Id.h 5 0, some (rowB true false 2 cA2I mh_5_0))]
noncomputable def L_impl_IsMap_L10 (mh_45_0 : List (List Int)) (mh_1_0 : DMap) (x46 : Int) (x47 : Int) : Option R := lpK G T 52 Tryz.f52 [1, 1, 1, 0, 1, 0] (js 1 ((AV.ptr (Id.h 1 0) none 0) :: js 43 ((.own (Id.h 45 0) none 0 mh_45_0.length mh_45_0.length) :: (I x46) :: (I x47) :: js 18 []))) [(Id.h 1 0, some ⟨false, true, false, 0, cMap mh_1_0⟩), (Id.h 45 0, some (rowB true false 1 cLI mh_45_0))]
noncomputable def L_impl_IsMap_L15 (mh_45_0 : List (List Int)) (mh_1_0 : DMap) (x46 : Int) (x47 : Int) (x54 : List Int) (x55 : Int) (x56 : Int) : Option R := lpK G T 52 Tryz.f52 [1, 1, 1, 0, 1, 0, 0, 1, 1, 0, 0, 1, 1, 1, 0] (js 1 ((AV.ptr (Id.h 1 0) none 0) :: js 43 ((.own (Id.h 45 0) none 0 mh_45_0.length mh_45_0.length) :: (I x46) :: (I x47) :: js 6 ((slc cI x54) :: (I x55) :: (I x56) :: js 9 [])))) [(Id.h 1 0, some ⟨false, true, false, 0, cMap mh_1_0⟩), (Id.h 45 0, some (rowB true false 1 cLI mh_45_0))]
noncomputable def L_slices_IndexFunc_int_of_impl_goodWorks_1_L2 (ml_0 : DBoard) (s0 : List Int) (x7 : Int) (x8 : Int) : Option R := lpK G T 81 Tryz.f81 [1, 0, 1, 0] ((slc cI s0) :: (.clo 59 [(AV.ptr (Id.l 0) none 0)]) :: js 5 ((I x7) :: (I x8) :: js 10 [])) [(Id.l 0, some ⟨false, false, false, 0, cBoard ml_0⟩)]
noncomputable def A_laws_FnWorks (code0 : KSl) (more1 : KSl) : Option R := call G 3 [(Kn code0), (Kn more1)] []
noncomputable def A_spec_ProduceTurn (b0 : DBoard) (s1 : DState) (x2 : DWorks) (income3 : Int) : Option R := call G 6 [(.agg (cBoard b0)), (.agg (cState s1)), (.agg (cWorks x2)), (I income3)] []
def en_spec_ProduceTurn : DState × DWorks × Int × Bool → R := fun (a : DState × DWorks × Int × Bool) => (AV.tup [AV.agg (cState a.fst), AV.agg (cWorks a.snd.fst), I a.snd.snd.fst, B a.snd.snd.snd], [])
theorem inj_spec_ProduceTurn : Inj en_spec_ProduceTurn := fun a b h => by
  first | (simpa [en_spec_ProduceTurn, Prod.ext_iff, and_assoc] using h) | (obtain ⟨⟨_, _, _⟩, ⟨⟨_, _, _, _⟩, ⟨_, _⟩⟩⟩ := a; obtain ⟨⟨_, _, _⟩, ⟨⟨_, _, _, _⟩, ⟨_, _⟩⟩⟩ := b; simp [en_spec_ProduceTurn] at h ⊢; simp_all; done) | (obtain ⟨⟨_, _, _⟩, ⟨⟨_, _, _, _⟩, ⟨_, _⟩⟩⟩ := a; obtain ⟨⟨_, _, _⟩, ⟨⟨_, _, _, _⟩, ⟨_, _⟩⟩⟩ := b; simp [en_spec_ProduceTurn] at h; obtain ⟨h1, h2⟩ := h; have h3 := List.append_inj h2.2.2 h1.2.1.1; simp_all)
noncomputable def cl_spec_ProduceTurn {γ : Type} (b0 : DBoard) (s1 : DState) (x2 : DWorks) (income3 : Int) (k : DState × DWorks × Int × Bool → Option γ) : Option γ := cl en_spec_ProduceTurn (call G) 6 [(.agg (cBoard b0)), (.agg (cState s1)), (.agg (cWorks x2)), (I income3)] [] k
theorem k_spec_ProduceTurn {γ : Type} (b0 : DBoard) (s1 : DState) (x2 : DWorks) (income3 : Int) {v : DState × DWorks × Int × Bool} (h : A_spec_ProduceTurn b0 s1 x2 income3 = some (en_spec_ProduceTurn v)) (k : DState × DWorks × Int × Bool → Option γ) : cl_spec_ProduceTurn b0 s1 x2 income3 k = k v := cl_eq inj_spec_ProduceTurn h k
noncomputable def A_spec_pdWithout (x0 : DWorks) (k1 : Int) : Option R := call G 47 [(.agg (cWorks x0)), (I k1)] []
def en_spec_pdWithout : DWorks → R := fun (a : DWorks) => (AV.agg (cWorks a), [])
theorem inj_spec_pdWithout : Inj en_spec_pdWithout := fun a b h => by
  first | (simpa [en_spec_pdWithout, Prod.ext_iff, and_assoc] using h) | (obtain ⟨_, _, _, _⟩ := a; obtain ⟨_, _, _, _⟩ := b; simp [en_spec_pdWithout] at h ⊢; simp_all; done) | (obtain ⟨_, _, _, _⟩ := a; obtain ⟨_, _, _, _⟩ := b; simp [en_spec_pdWithout] at h; obtain ⟨h1, h2⟩ := h; have h3 := List.append_inj h2.2.2 h1.2.1.1; simp_all)
noncomputable def cl_spec_pdWithout {γ : Type} (x0 : DWorks) (k1 : Int) (k : DWorks → Option γ) : Option γ := cl en_spec_pdWithout (call G) 47 [(.agg (cWorks x0)), (I k1)] [] k
theorem k_spec_pdWithout {γ : Type} (x0 : DWorks) (k1 : Int) {v : DWorks} (h : A_spec_pdWithout x0 k1 = some (en_spec_pdWithout v)) (k : DWorks → Option γ) : cl_spec_pdWithout x0 k1 k = k v := cl_eq inj_spec_pdWithout h k
noncomputable def A_spec_DrawProduceTurn (code0 : KSl) : Option R := call G 4 [(Kn code0)] []
def en_spec_DrawProduceTurn : DBoard × DState × DWorks × Int → R := fun (a : DBoard × DState × DWorks × Int) => (AV.tup [AV.agg (cBoard a.fst), AV.agg (cState a.snd.fst), AV.agg (cWorks a.snd.snd.fst), I a.snd.snd.snd], [])
theorem inj_spec_DrawProduceTurn : Inj en_spec_DrawProduceTurn := fun a b h => by
  first | (simpa [en_spec_DrawProduceTurn, Prod.ext_iff, and_assoc] using h) | (obtain ⟨⟨⟨_, _, _, _, _, _, _⟩, ⟨_, _, _, _, _⟩⟩, ⟨⟨_, _, _⟩, ⟨⟨_, _, _, _⟩, _⟩⟩⟩ := a; obtain ⟨⟨⟨_, _, _, _, _, _, _⟩, ⟨_, _, _, _, _⟩⟩, ⟨⟨_, _, _⟩, ⟨⟨_, _, _, _⟩, _⟩⟩⟩ := b; simp [en_spec_DrawProduceTurn] at h ⊢; simp_all; done) | (obtain ⟨⟨⟨_, _, _, _, _, _, _⟩, ⟨_, _, _, _, _⟩⟩, ⟨⟨_, _, _⟩, ⟨⟨_, _, _, _⟩, _⟩⟩⟩ := a; obtain ⟨⟨⟨_, _, _, _, _, _, _⟩, ⟨_, _, _, _, _⟩⟩, ⟨⟨_, _, _⟩, ⟨⟨_, _, _, _⟩, _⟩⟩⟩ := b; simp [en_spec_DrawProduceTurn] at h; obtain ⟨h1, h2⟩ := h; have h3 := List.append_inj h2.2.2 h1.2.1.1; simp_all)
noncomputable def cl_spec_DrawProduceTurn {γ : Type} (code0 : KSl) (k : DBoard × DState × DWorks × Int → Option γ) : Option γ := cl en_spec_DrawProduceTurn (call G) 4 [(Kn code0)] [] k
theorem ko_spec_DrawProduceTurn {γ : Type} (code0 : KSl) {Q : DBoard × DState × DWorks × Int → Prop} (h : ∃ v, A_spec_DrawProduceTurn code0 = some (en_spec_DrawProduceTurn v) ∧ Q v) {k : DBoard × DState × DWorks × Int → Option γ} {Q' : γ → Prop} (hk : ∀ v, Q v → OK (k v) Q') : OK (cl_spec_DrawProduceTurn code0 k) Q' := cl_ok inj_spec_DrawProduceTurn h hk
noncomputable def A_impl_goodKind (k0 : DKind) : Option R := call G 77 [(.agg (cKind k0))] []
def en_impl_goodKind : Bool → R := fun (a : Bool) => (B a, [])
theorem inj_impl_goodKind : Inj en_impl_goodKind := fun a b h => by
  first | (simpa [en_impl_goodKind, Prod.ext_iff, and_assoc] using h) | (obtain _ := a; obtain _ := b; simp [en_impl_goodKind] at h ⊢; simp_all; done) | (obtain _ := a; obtain _ := b; simp [en_impl_goodKind] at h; obtain ⟨h1, h2⟩ := h; have h3 := List.append_inj h2.2.2 h1.2.1.1; simp_all)
noncomputable def cl_impl_goodKind {γ : Type} (k0 : DKind) (k : Bool → Option γ) : Option γ := cl en_impl_goodKind (call G) 77 [(.agg (cKind k0))] [] k
theorem k_impl_goodKind {γ : Type} (k0 : DKind) {v : Bool} (h : A_impl_goodKind k0 = some (en_impl_goodKind v)) (k : Bool → Option γ) : cl_impl_goodKind k0 k = k v := cl_eq inj_impl_goodKind h k
noncomputable def A_spec_bGood (b0 : DBoard) : Option R := call G 62 [(.agg (cBoard b0))] []
def en_spec_bGood : Bool → R := fun (a : Bool) => (B a, [])
theorem inj_spec_bGood : Inj en_spec_bGood := fun a b h => by
  first | (simpa [en_spec_bGood, Prod.ext_iff, and_assoc] using h) | (obtain _ := a; obtain _ := b; simp [en_spec_bGood] at h ⊢; simp_all; done) | (obtain _ := a; obtain _ := b; simp [en_spec_bGood] at h; obtain ⟨h1, h2⟩ := h; have h3 := List.append_inj h2.2.2 h1.2.1.1; simp_all)
noncomputable def cl_spec_bGood {γ : Type} (b0 : DBoard) (k : Bool → Option γ) : Option γ := cl en_spec_bGood (call G) 62 [(.agg (cBoard b0))] [] k
theorem k_spec_bGood {γ : Type} (b0 : DBoard) {v : Bool} (h : A_spec_bGood b0 = some (en_spec_bGood v)) (k : Bool → Option γ) : cl_spec_bGood b0 k = k v := cl_eq inj_spec_bGood h k
noncomputable def A_impl_isEdge (m0 : DMap) (edge1 : Int) : Option R := call G 80 [(.agg (cMap m0)), (I edge1)] []
def en_impl_isEdge : Bool → R := fun (a : Bool) => (B a, [])
theorem inj_impl_isEdge : Inj en_impl_isEdge := fun a b h => by
  first | (simpa [en_impl_isEdge, Prod.ext_iff, and_assoc] using h) | (obtain _ := a; obtain _ := b; simp [en_impl_isEdge] at h ⊢; simp_all; done) | (obtain _ := a; obtain _ := b; simp [en_impl_isEdge] at h; obtain ⟨h1, h2⟩ := h; have h3 := List.append_inj h2.2.2 h1.2.1.1; simp_all)
noncomputable def cl_impl_isEdge {γ : Type} (m0 : DMap) (edge1 : Int) (k : Bool → Option γ) : Option γ := cl en_impl_isEdge (call G) 80 [(.agg (cMap m0)), (I edge1)] [] k
theorem k_impl_isEdge {γ : Type} (m0 : DMap) (edge1 : Int) {v : Bool} (h : A_impl_isEdge m0 edge1 = some (en_impl_isEdge v)) (k : Bool → Option γ) : cl_impl_isEdge m0 edge1 k = k v := cl_eq inj_impl_isEdge h k
noncomputable def A_spec_mEdge (m0 : DMap) (i1 : Int) (d2 : Int) : Option R := call G 122 [(.agg (cMap m0)), (I i1), (I d2)] []
def en_spec_mEdge : Int → R := fun (a : Int) => (I a, [])
theorem inj_spec_mEdge : Inj en_spec_mEdge := fun a b h => by
  first | (simpa [en_spec_mEdge, Prod.ext_iff, and_assoc] using h) | (obtain _ := a; obtain _ := b; simp [en_spec_mEdge] at h ⊢; simp_all; done) | (obtain _ := a; obtain _ := b; simp [en_spec_mEdge] at h; obtain ⟨h1, h2⟩ := h; have h3 := List.append_inj h2.2.2 h1.2.1.1; simp_all)
noncomputable def cl_spec_mEdge {γ : Type} (m0 : DMap) (i1 : Int) (d2 : Int) (k : Int → Option γ) : Option γ := cl en_spec_mEdge (call G) 122 [(.agg (cMap m0)), (I i1), (I d2)] [] k
theorem k_spec_mEdge {γ : Type} (m0 : DMap) (i1 : Int) (d2 : Int) {v : Int} (h : A_spec_mEdge m0 i1 d2 = some (en_spec_mEdge v)) (k : Int → Option γ) : cl_spec_mEdge m0 i1 d2 k = k v := cl_eq inj_spec_mEdge h k
noncomputable def A_impl_IsState (b0 : DBoard) (s1 : DState) : Option R := call G 12 [(.agg (cBoard b0)), (.agg (cState s1))] []
def en_impl_IsState : Bool × Bool → R := fun (a : Bool × Bool) => (AV.tup [B a.fst, B a.snd], [])
theorem inj_impl_IsState : Inj en_impl_IsState := fun a b h => by
  first | (simpa [en_impl_IsState, Prod.ext_iff, and_assoc] using h) | (obtain ⟨_, _⟩ := a; obtain ⟨_, _⟩ := b; simp [en_impl_IsState] at h ⊢; simp_all; done) | (obtain ⟨_, _⟩ := a; obtain ⟨_, _⟩ := b; simp [en_impl_IsState] at h; obtain ⟨h1, h2⟩ := h; have h3 := List.append_inj h2.2.2 h1.2.1.1; simp_all)
noncomputable def cl_impl_IsState {γ : Type} (b0 : DBoard) (s1 : DState) (k : Bool × Bool → Option γ) : Option γ := cl en_impl_IsState (call G) 12 [(.agg (cBoard b0)), (.agg (cState s1))] [] k
theorem k_impl_IsState {γ : Type} (b0 : DBoard) (s1 : DState) {v : Bool × Bool} (h : A_impl_IsState b0 s1 = some (en_impl_IsState v)) (k : Bool × Bool → Option γ) : cl_impl_IsState b0 s1 k = k v := cl_eq inj_impl_IsState h k
noncomputable def A_spec_pdOwn (x0 : DWorks) : Option R := call G 29 [(.agg (cWorks x0))] []
def en_spec_pdOwn : DWorks → R := fun (a : DWorks) => (AV.agg (cWorks a), [])
theorem inj_spec_pdOwn : Inj en_spec_pdOwn := fun a b h => by
  first | (simpa [en_spec_pdOwn, Prod.ext_iff, and_assoc] using h) | (obtain ⟨_, _, _, _⟩ := a; obtain ⟨_, _, _, _⟩ := b; simp [en_spec_pdOwn] at h ⊢; simp_all; done) | (obtain ⟨_, _, _, _⟩ := a; obtain ⟨_, _, _, _⟩ := b; simp [en_spec_pdOwn] at h; obtain ⟨h1, h2⟩ := h; have h3 := List.append_inj h2.2.2 h1.2.1.1; simp_all)
noncomputable def cl_spec_pdOwn {γ : Type} (x0 : DWorks) (k : DWorks → Option γ) : Option γ := cl en_spec_pdOwn (call G) 29 [(.agg (cWorks x0))] [] k
theorem k_spec_pdOwn {γ : Type} (x0 : DWorks) {v : DWorks} (h : A_spec_pdOwn x0 = some (en_spec_pdOwn v)) (k : DWorks → Option γ) : cl_spec_pdOwn x0 k = k v := cl_eq inj_spec_pdOwn h k
noncomputable def A_impl_fits (b0 : DBoard) (s1 : DState) : Option R := call G 40 [(.agg (cBoard b0)), (.agg (cState s1))] []
def en_impl_fits : Bool → R := fun (a : Bool) => (B a, [])
theorem inj_impl_fits : Inj en_impl_fits := fun a b h => by
  first | (simpa [en_impl_fits, Prod.ext_iff, and_assoc] using h) | (obtain _ := a; obtain _ := b; simp [en_impl_fits] at h ⊢; simp_all; done) | (obtain _ := a; obtain _ := b; simp [en_impl_fits] at h; obtain ⟨h1, h2⟩ := h; have h3 := List.append_inj h2.2.2 h1.2.1.1; simp_all)
noncomputable def cl_impl_fits {γ : Type} (b0 : DBoard) (s1 : DState) (k : Bool → Option γ) : Option γ := cl en_impl_fits (call G) 40 [(.agg (cBoard b0)), (.agg (cState s1))] [] k
theorem k_impl_fits {γ : Type} (b0 : DBoard) (s1 : DState) {v : Bool} (h : A_impl_fits b0 s1 = some (en_impl_fits v)) (k : Bool → Option γ) : cl_impl_fits b0 s1 k = k v := cl_eq inj_impl_fits h k
noncomputable def A_spec_bCost (b0 : DBoard) (kind1 : Int) (i2 : Int) : Option R := call G 72 [(.agg (cBoard b0)), (I kind1), (I i2)] []
def en_spec_bCost : Int → R := fun (a : Int) => (I a, [])
theorem inj_spec_bCost : Inj en_spec_bCost := fun a b h => by
  first | (simpa [en_spec_bCost, Prod.ext_iff, and_assoc] using h) | (obtain _ := a; obtain _ := b; simp [en_spec_bCost] at h ⊢; simp_all; done) | (obtain _ := a; obtain _ := b; simp [en_spec_bCost] at h; obtain ⟨h1, h2⟩ := h; have h3 := List.append_inj h2.2.2 h1.2.1.1; simp_all)
noncomputable def cl_spec_bCost {γ : Type} (b0 : DBoard) (kind1 : Int) (i2 : Int) (k : Int → Option γ) : Option γ := cl en_spec_bCost (call G) 72 [(.agg (cBoard b0)), (I kind1), (I i2)] [] k
theorem k_spec_bCost {γ : Type} (b0 : DBoard) (kind1 : Int) (i2 : Int) {v : Int} (h : A_spec_bCost b0 kind1 i2 = some (en_spec_bCost v)) (k : Int → Option γ) : cl_spec_bCost b0 kind1 i2 k = k v := cl_eq inj_spec_bCost h k
noncomputable def A_spec_mSize (m0 : DMap) : Option R := call G 70 [(.agg (cMap m0))] []
def en_spec_mSize : Int → R := fun (a : Int) => (I a, [])
theorem inj_spec_mSize : Inj en_spec_mSize := fun a b h => by
  first | (simpa [en_spec_mSize, Prod.ext_iff, and_assoc] using h) | (obtain _ := a; obtain _ := b; simp [en_spec_mSize] at h ⊢; simp_all; done) | (obtain _ := a; obtain _ := b; simp [en_spec_mSize] at h; obtain ⟨h1, h2⟩ := h; have h3 := List.append_inj h2.2.2 h1.2.1.1; simp_all)
noncomputable def cl_spec_mSize {γ : Type} (m0 : DMap) (k : Int → Option γ) : Option γ := cl en_spec_mSize (call G) 70 [(.agg (cMap m0))] [] k
theorem k_spec_mSize {γ : Type} (m0 : DMap) {v : Int} (h : A_spec_mSize m0 = some (en_spec_mSize v)) (k : Int → Option γ) : cl_spec_mSize m0 k = k v := cl_eq inj_spec_mSize h k
noncomputable def A_impl_kindIndex (list0 : List DKind) (name1 : ByteArray) : Option R := call G 78 [(slc cKind list0), (S name1)] []
def en_impl_kindIndex : Int → R := fun (a : Int) => (I a, [])
theorem inj_impl_kindIndex : Inj en_impl_kindIndex := fun a b h => by
  first | (simpa [en_impl_kindIndex, Prod.ext_iff, and_assoc] using h) | (obtain _ := a; obtain _ := b; simp [en_impl_kindIndex] at h ⊢; simp_all; done) | (obtain _ := a; obtain _ := b; simp [en_impl_kindIndex] at h; obtain ⟨h1, h2⟩ := h; have h3 := List.append_inj h2.2.2 h1.2.1.1; simp_all)
noncomputable def cl_impl_kindIndex {γ : Type} (list0 : List DKind) (name1 : ByteArray) (k : Int → Option γ) : Option γ := cl en_impl_kindIndex (call G) 78 [(slc cKind list0), (S name1)] [] k
theorem k_impl_kindIndex {γ : Type} (list0 : List DKind) (name1 : ByteArray) {v : Int} (h : A_impl_kindIndex list0 name1 = some (en_impl_kindIndex v)) (k : Int → Option γ) : cl_impl_kindIndex list0 name1 k = k v := cl_eq inj_impl_kindIndex h k
noncomputable def A_impl_ProduceTurn (b0 : DBoard) (s1 : DState) (x2 : DWorks) (income3 : Int) : Option R := call G 5 [(.agg (cBoard b0)), (.agg (cState s1)), (.agg (cWorks x2)), (I income3)] []
def en_impl_ProduceTurn : DState × DWorks × Int × Bool → R := fun (a : DState × DWorks × Int × Bool) => (AV.tup [AV.agg (cState a.fst), AV.agg (cWorks a.snd.fst), I a.snd.snd.fst, B a.snd.snd.snd], [])
theorem inj_impl_ProduceTurn : Inj en_impl_ProduceTurn := fun a b h => by
  first | (simpa [en_impl_ProduceTurn, Prod.ext_iff, and_assoc] using h) | (obtain ⟨⟨_, _, _⟩, ⟨⟨_, _, _, _⟩, ⟨_, _⟩⟩⟩ := a; obtain ⟨⟨_, _, _⟩, ⟨⟨_, _, _, _⟩, ⟨_, _⟩⟩⟩ := b; simp [en_impl_ProduceTurn] at h ⊢; simp_all; done) | (obtain ⟨⟨_, _, _⟩, ⟨⟨_, _, _, _⟩, ⟨_, _⟩⟩⟩ := a; obtain ⟨⟨_, _, _⟩, ⟨⟨_, _, _, _⟩, ⟨_, _⟩⟩⟩ := b; simp [en_impl_ProduceTurn] at h; obtain ⟨h1, h2⟩ := h; have h3 := List.append_inj h2.2.2 h1.2.1.1; simp_all)
noncomputable def cl_impl_ProduceTurn {γ : Type} (b0 : DBoard) (s1 : DState) (x2 : DWorks) (income3 : Int) (k : DState × DWorks × Int × Bool → Option γ) : Option γ := cl en_impl_ProduceTurn (call G) 5 [(.agg (cBoard b0)), (.agg (cState s1)), (.agg (cWorks x2)), (I income3)] [] k
theorem k_impl_ProduceTurn {γ : Type} (b0 : DBoard) (s1 : DState) (x2 : DWorks) (income3 : Int) {v : DState × DWorks × Int × Bool} (h : A_impl_ProduceTurn b0 s1 x2 income3 = some (en_impl_ProduceTurn v)) (k : DState × DWorks × Int × Bool → Option γ) : cl_impl_ProduceTurn b0 s1 x2 income3 k = k v := cl_eq inj_impl_ProduceTurn h k
noncomputable def A_spec_DrawProduceTurns (code0 : KSl) : Option R := call G 7 [(Kn code0)] []
def en_spec_DrawProduceTurns : DBoard × DState × DWorks × Int × Int → R := fun (a : DBoard × DState × DWorks × Int × Int) => (AV.tup [AV.agg (cBoard a.fst), AV.agg (cState a.snd.fst), AV.agg (cWorks a.snd.snd.fst), I a.snd.snd.snd.fst, I a.snd.snd.snd.snd], [])
theorem inj_spec_DrawProduceTurns : Inj en_spec_DrawProduceTurns := fun a b h => by
  first | (simpa [en_spec_DrawProduceTurns, Prod.ext_iff, and_assoc] using h) | (obtain ⟨⟨⟨_, _, _, _, _, _, _⟩, ⟨_, _, _, _, _⟩⟩, ⟨⟨_, _, _⟩, ⟨⟨_, _, _, _⟩, ⟨_, _⟩⟩⟩⟩ := a; obtain ⟨⟨⟨_, _, _, _, _, _, _⟩, ⟨_, _, _, _, _⟩⟩, ⟨⟨_, _, _⟩, ⟨⟨_, _, _, _⟩, ⟨_, _⟩⟩⟩⟩ := b; simp [en_spec_DrawProduceTurns] at h ⊢; simp_all; done) | (obtain ⟨⟨⟨_, _, _, _, _, _, _⟩, ⟨_, _, _, _, _⟩⟩, ⟨⟨_, _, _⟩, ⟨⟨_, _, _, _⟩, ⟨_, _⟩⟩⟩⟩ := a; obtain ⟨⟨⟨_, _, _, _, _, _, _⟩, ⟨_, _, _, _, _⟩⟩, ⟨⟨_, _, _⟩, ⟨⟨_, _, _, _⟩, ⟨_, _⟩⟩⟩⟩ := b; simp [en_spec_DrawProduceTurns] at h; obtain ⟨h1, h2⟩ := h; have h3 := List.append_inj h2.2.2 h1.2.1.1; simp_all)
noncomputable def cl_spec_DrawProduceTurns {γ : Type} (code0 : KSl) (k : DBoard × DState × DWorks × Int × Int → Option γ) : Option γ := cl en_spec_DrawProduceTurns (call G) 7 [(Kn code0)] [] k
theorem ko_spec_DrawProduceTurns {γ : Type} (code0 : KSl) {Q : DBoard × DState × DWorks × Int × Int → Prop} (h : ∃ v, A_spec_DrawProduceTurns code0 = some (en_spec_DrawProduceTurns v) ∧ Q v) {k : DBoard × DState × DWorks × Int × Int → Option γ} {Q' : γ → Prop} (hk : ∀ v, Q v → OK (k v) Q') : OK (cl_spec_DrawProduceTurns code0 k) Q' := cl_ok inj_spec_DrawProduceTurns h hk
noncomputable def A_impl_ProduceTurns (b0 : DBoard) (s1 : DState) (x2 : DWorks) (income3 : Int) (n4 : Int) : Option R := call G 8 [(.agg (cBoard b0)), (.agg (cState s1)), (.agg (cWorks x2)), (I income3), (I n4)] []
def en_impl_ProduceTurns : DState × DWorks × Int × Bool → R := fun (a : DState × DWorks × Int × Bool) => (AV.tup [AV.agg (cState a.fst), AV.agg (cWorks a.snd.fst), I a.snd.snd.fst, B a.snd.snd.snd], [])
theorem inj_impl_ProduceTurns : Inj en_impl_ProduceTurns := fun a b h => by
  first | (simpa [en_impl_ProduceTurns, Prod.ext_iff, and_assoc] using h) | (obtain ⟨⟨_, _, _⟩, ⟨⟨_, _, _, _⟩, ⟨_, _⟩⟩⟩ := a; obtain ⟨⟨_, _, _⟩, ⟨⟨_, _, _, _⟩, ⟨_, _⟩⟩⟩ := b; simp [en_impl_ProduceTurns] at h ⊢; simp_all; done) | (obtain ⟨⟨_, _, _⟩, ⟨⟨_, _, _, _⟩, ⟨_, _⟩⟩⟩ := a; obtain ⟨⟨_, _, _⟩, ⟨⟨_, _, _, _⟩, ⟨_, _⟩⟩⟩ := b; simp [en_impl_ProduceTurns] at h; obtain ⟨h1, h2⟩ := h; have h3 := List.append_inj h2.2.2 h1.2.1.1; simp_all)
noncomputable def cl_impl_ProduceTurns {γ : Type} (b0 : DBoard) (s1 : DState) (x2 : DWorks) (income3 : Int) (n4 : Int) (k : DState × DWorks × Int × Bool → Option γ) : Option γ := cl en_impl_ProduceTurns (call G) 8 [(.agg (cBoard b0)), (.agg (cState s1)), (.agg (cWorks x2)), (I income3), (I n4)] [] k
theorem k_impl_ProduceTurns {γ : Type} (b0 : DBoard) (s1 : DState) (x2 : DWorks) (income3 : Int) (n4 : Int) {v : DState × DWorks × Int × Bool} (h : A_impl_ProduceTurns b0 s1 x2 income3 n4 = some (en_impl_ProduceTurns v)) (k : DState × DWorks × Int × Bool → Option γ) : cl_impl_ProduceTurns b0 s1 x2 income3 n4 k = k v := cl_eq inj_impl_ProduceTurns h k
noncomputable def A_spec_ProduceTurns (b0 : DBoard) (s1 : DState) (x2 : DWorks) (income3 : Int) (n4 : Int) : Option R := call G 9 [(.agg (cBoard b0)), (.agg (cState s1)), (.agg (cWorks x2)), (I income3), (I n4)] []
def en_spec_ProduceTurns : DState × DWorks × Int × Bool → R := fun (a : DState × DWorks × Int × Bool) => (AV.tup [AV.agg (cState a.fst), AV.agg (cWorks a.snd.fst), I a.snd.snd.fst, B a.snd.snd.snd], [])
theorem inj_spec_ProduceTurns : Inj en_spec_ProduceTurns := fun a b h => by
  first | (simpa [en_spec_ProduceTurns, Prod.ext_iff, and_assoc] using h) | (obtain ⟨⟨_, _, _⟩, ⟨⟨_, _, _, _⟩, ⟨_, _⟩⟩⟩ := a; obtain ⟨⟨_, _, _⟩, ⟨⟨_, _, _, _⟩, ⟨_, _⟩⟩⟩ := b; simp [en_spec_ProduceTurns] at h ⊢; simp_all; done) | (obtain ⟨⟨_, _, _⟩, ⟨⟨_, _, _, _⟩, ⟨_, _⟩⟩⟩ := a; obtain ⟨⟨_, _, _⟩, ⟨⟨_, _, _, _⟩, ⟨_, _⟩⟩⟩ := b; simp [en_spec_ProduceTurns] at h; obtain ⟨h1, h2⟩ := h; have h3 := List.append_inj h2.2.2 h1.2.1.1; simp_all)
noncomputable def cl_spec_ProduceTurns {γ : Type} (b0 : DBoard) (s1 : DState) (x2 : DWorks) (income3 : Int) (n4 : Int) (k : DState × DWorks × Int × Bool → Option γ) : Option γ := cl en_spec_ProduceTurns (call G) 9 [(.agg (cBoard b0)), (.agg (cState s1)), (.agg (cWorks x2)), (I income3), (I n4)] [] k
theorem k_spec_ProduceTurns {γ : Type} (b0 : DBoard) (s1 : DState) (x2 : DWorks) (income3 : Int) (n4 : Int) {v : DState × DWorks × Int × Bool} (h : A_spec_ProduceTurns b0 s1 x2 income3 n4 = some (en_spec_ProduceTurns v)) (k : DState × DWorks × Int × Bool → Option γ) : cl_spec_ProduceTurns b0 s1 x2 income3 n4 k = k v := cl_eq inj_spec_ProduceTurns h k
noncomputable def A_laws_qState (a0 : DState) (b1 : DState) : Option R := call G 10 [(.agg (cState a0)), (.agg (cState b1))] []
def en_laws_qState : Bool → R := fun (a : Bool) => (B a, [])
theorem inj_laws_qState : Inj en_laws_qState := fun a b h => by
  first | (simpa [en_laws_qState, Prod.ext_iff, and_assoc] using h) | (obtain _ := a; obtain _ := b; simp [en_laws_qState] at h ⊢; simp_all; done) | (obtain _ := a; obtain _ := b; simp [en_laws_qState] at h; obtain ⟨h1, h2⟩ := h; have h3 := List.append_inj h2.2.2 h1.2.1.1; simp_all)
noncomputable def cl_laws_qState {γ : Type} (a0 : DState) (b1 : DState) (k : Bool → Option γ) : Option γ := cl en_laws_qState (call G) 10 [(.agg (cState a0)), (.agg (cState b1))] [] k
theorem k_laws_qState {γ : Type} (a0 : DState) (b1 : DState) {v : Bool} (h : A_laws_qState a0 b1 = some (en_laws_qState v)) (k : Bool → Option γ) : cl_laws_qState a0 b1 k = k v := cl_eq inj_laws_qState h k
noncomputable def A_laws_qWorks (a0 : DWorks) (b1 : DWorks) : Option R := call G 11 [(.agg (cWorks a0)), (.agg (cWorks b1))] []
def en_laws_qWorks : Bool → R := fun (a : Bool) => (B a, [])
theorem inj_laws_qWorks : Inj en_laws_qWorks := fun a b h => by
  first | (simpa [en_laws_qWorks, Prod.ext_iff, and_assoc] using h) | (obtain _ := a; obtain _ := b; simp [en_laws_qWorks] at h ⊢; simp_all; done) | (obtain _ := a; obtain _ := b; simp [en_laws_qWorks] at h; obtain ⟨h1, h2⟩ := h; have h3 := List.append_inj h2.2.2 h1.2.1.1; simp_all)
noncomputable def cl_laws_qWorks {γ : Type} (a0 : DWorks) (b1 : DWorks) (k : Bool → Option γ) : Option γ := cl en_laws_qWorks (call G) 11 [(.agg (cWorks a0)), (.agg (cWorks b1))] [] k
theorem k_laws_qWorks {γ : Type} (a0 : DWorks) (b1 : DWorks) {v : Bool} (h : A_laws_qWorks a0 b1 = some (en_laws_qWorks v)) (k : Bool → Option γ) : cl_laws_qWorks a0 b1 k = k v := cl_eq inj_laws_qWorks h k
noncomputable def A_impl_AreWorks (b0 : DBoard) (x1 : DWorks) : Option R := call G 13 [(.agg (cBoard b0)), (.agg (cWorks x1))] []
def en_impl_AreWorks : Bool × Bool → R := fun (a : Bool × Bool) => (AV.tup [B a.fst, B a.snd], [])
theorem inj_impl_AreWorks : Inj en_impl_AreWorks := fun a b h => by
  first | (simpa [en_impl_AreWorks, Prod.ext_iff, and_assoc] using h) | (obtain ⟨_, _⟩ := a; obtain ⟨_, _⟩ := b; simp [en_impl_AreWorks] at h ⊢; simp_all; done) | (obtain ⟨_, _⟩ := a; obtain ⟨_, _⟩ := b; simp [en_impl_AreWorks] at h; obtain ⟨h1, h2⟩ := h; have h3 := List.append_inj h2.2.2 h1.2.1.1; simp_all)
noncomputable def cl_impl_AreWorks {γ : Type} (b0 : DBoard) (x1 : DWorks) (k : Bool × Bool → Option γ) : Option γ := cl en_impl_AreWorks (call G) 13 [(.agg (cBoard b0)), (.agg (cWorks x1))] [] k
theorem k_impl_AreWorks {γ : Type} (b0 : DBoard) (x1 : DWorks) {v : Bool × Bool} (h : A_impl_AreWorks b0 x1 = some (en_impl_AreWorks v)) (k : Bool × Bool → Option γ) : cl_impl_AreWorks b0 x1 k = k v := cl_eq inj_impl_AreWorks h k
noncomputable def A_laws_qInts (a0 : List Int) (b1 : List Int) : Option R := call G 14 [(slc cI a0), (slc cI b1)] []
def en_laws_qInts : Bool → R := fun (a : Bool) => (B a, [])
theorem inj_laws_qInts : Inj en_laws_qInts := fun a b h => by
  first | (simpa [en_laws_qInts, Prod.ext_iff, and_assoc] using h) | (obtain _ := a; obtain _ := b; simp [en_laws_qInts] at h ⊢; simp_all; done) | (obtain _ := a; obtain _ := b; simp [en_laws_qInts] at h; obtain ⟨h1, h2⟩ := h; have h3 := List.append_inj h2.2.2 h1.2.1.1; simp_all)
noncomputable def cl_laws_qInts {γ : Type} (a0 : List Int) (b1 : List Int) (k : Bool → Option γ) : Option γ := cl en_laws_qInts (call G) 14 [(slc cI a0), (slc cI b1)] [] k
theorem k_laws_qInts {γ : Type} (a0 : List Int) (b1 : List Int) {v : Bool} (h : A_laws_qInts a0 b1 = some (en_laws_qInts v)) (k : Bool → Option γ) : cl_laws_qInts a0 b1 k = k v := cl_eq inj_laws_qInts h k
noncomputable def A_impl_KindPrice (b0 : DBoard) (kind1 : Int) : Option R := call G 15 [(.agg (cBoard b0)), (I kind1)] []
def en_impl_KindPrice : Int × Bool → R := fun (a : Int × Bool) => (AV.tup [I a.fst, B a.snd], [])
theorem inj_impl_KindPrice : Inj en_impl_KindPrice := fun a b h => by
  first | (simpa [en_impl_KindPrice, Prod.ext_iff, and_assoc] using h) | (obtain ⟨_, _⟩ := a; obtain ⟨_, _⟩ := b; simp [en_impl_KindPrice] at h ⊢; simp_all; done) | (obtain ⟨_, _⟩ := a; obtain ⟨_, _⟩ := b; simp [en_impl_KindPrice] at h; obtain ⟨h1, h2⟩ := h; have h3 := List.append_inj h2.2.2 h1.2.1.1; simp_all)
noncomputable def cl_impl_KindPrice {γ : Type} (b0 : DBoard) (kind1 : Int) (k : Int × Bool → Option γ) : Option γ := cl en_impl_KindPrice (call G) 15 [(.agg (cBoard b0)), (I kind1)] [] k
theorem k_impl_KindPrice {γ : Type} (b0 : DBoard) (kind1 : Int) {v : Int × Bool} (h : A_impl_KindPrice b0 kind1 = some (en_impl_KindPrice v)) (k : Int × Bool → Option γ) : cl_impl_KindPrice b0 kind1 k = k v := cl_eq inj_impl_KindPrice h k
noncomputable def A_spec_pdInput (b0 : DBoard) (s1 : DState) (x2 : DWorks) : Option R := call G 21 [(.agg (cBoard b0)), (.agg (cState s1)), (.agg (cWorks x2))] []
def en_spec_pdInput : Bool → R := fun (a : Bool) => (B a, [])
theorem inj_spec_pdInput : Inj en_spec_pdInput := fun a b h => by
  first | (simpa [en_spec_pdInput, Prod.ext_iff, and_assoc] using h) | (obtain _ := a; obtain _ := b; simp [en_spec_pdInput] at h ⊢; simp_all; done) | (obtain _ := a; obtain _ := b; simp [en_spec_pdInput] at h; obtain ⟨h1, h2⟩ := h; have h3 := List.append_inj h2.2.2 h1.2.1.1; simp_all)
noncomputable def cl_spec_pdInput {γ : Type} (b0 : DBoard) (s1 : DState) (x2 : DWorks) (k : Bool → Option γ) : Option γ := cl en_spec_pdInput (call G) 21 [(.agg (cBoard b0)), (.agg (cState s1)), (.agg (cWorks x2))] [] k
theorem k_spec_pdInput {γ : Type} (b0 : DBoard) (s1 : DState) (x2 : DWorks) {v : Bool} (h : A_spec_pdInput b0 s1 x2 = some (en_spec_pdInput v)) (k : Bool → Option γ) : cl_spec_pdInput b0 s1 x2 k = k v := cl_eq inj_spec_pdInput h k
noncomputable def A_spec_l1In (n0 : Int) (lo1 : Int) (hi2 : Int) : Option R := call G 22 [(I n0), (I lo1), (I hi2)] []
def en_spec_l1In : Bool → R := fun (a : Bool) => (B a, [])
theorem inj_spec_l1In : Inj en_spec_l1In := fun a b h => by
  first | (simpa [en_spec_l1In, Prod.ext_iff, and_assoc] using h) | (obtain _ := a; obtain _ := b; simp [en_spec_l1In] at h ⊢; simp_all; done) | (obtain _ := a; obtain _ := b; simp [en_spec_l1In] at h; obtain ⟨h1, h2⟩ := h; have h3 := List.append_inj h2.2.2 h1.2.1.1; simp_all)
noncomputable def cl_spec_l1In {γ : Type} (n0 : Int) (lo1 : Int) (hi2 : Int) (k : Bool → Option γ) : Option γ := cl en_spec_l1In (call G) 22 [(I n0), (I lo1), (I hi2)] [] k
theorem k_spec_l1In {γ : Type} (n0 : Int) (lo1 : Int) (hi2 : Int) {v : Bool} (h : A_spec_l1In n0 lo1 hi2 = some (en_spec_l1In v)) (k : Bool → Option γ) : cl_spec_l1In n0 lo1 hi2 k = k v := cl_eq inj_spec_l1In h k
noncomputable def A_spec_pdTurn (b0 : DBoard) (s1 : DState) (x2 : DWorks) (income3 : Int) : Option R := call G 23 [(.agg (cBoard b0)), (.agg (cState s1)), (.agg (cWorks x2)), (I income3)] []
def en_spec_pdTurn : DState × DWorks × Int → R := fun (a : DState × DWorks × Int) => (AV.tup [AV.agg [I a.fst.Turn, I a.fst.Weather, AV.own (Id.r 0 0) none 0 (List.length a.fst.Units) (List.length a.fst.Units)], AV.agg (cWorks a.snd.fst), I a.snd.snd], [(Id.r 0 0, some (rowB true false 4 cUnit a.fst.Units))])
theorem inj_spec_pdTurn : Inj en_spec_pdTurn := fun a b h => by
  first | (simpa [en_spec_pdTurn, Prod.ext_iff, and_assoc] using h) | (obtain ⟨⟨_, _, _⟩, ⟨⟨_, _, _, _⟩, _⟩⟩ := a; obtain ⟨⟨_, _, _⟩, ⟨⟨_, _, _, _⟩, _⟩⟩ := b; simp [en_spec_pdTurn] at h ⊢; simp_all; done) | (obtain ⟨⟨_, _, _⟩, ⟨⟨_, _, _, _⟩, _⟩⟩ := a; obtain ⟨⟨_, _, _⟩, ⟨⟨_, _, _, _⟩, _⟩⟩ := b; simp [en_spec_pdTurn] at h; obtain ⟨h1, h2⟩ := h; have h3 := List.append_inj h2.2.2 h1.2.1.1; simp_all)
noncomputable def cl_spec_pdTurn {γ : Type} (b0 : DBoard) (s1 : DState) (x2 : DWorks) (income3 : Int) (k : DState × DWorks × Int → Option γ) : Option γ := cl en_spec_pdTurn (call G) 23 [(.agg (cBoard b0)), (.agg (cState s1)), (.agg (cWorks x2)), (I income3)] [] k
theorem k_spec_pdTurn {γ : Type} (b0 : DBoard) (s1 : DState) (x2 : DWorks) (income3 : Int) {v : DState × DWorks × Int} (h : A_spec_pdTurn b0 s1 x2 income3 = some (en_spec_pdTurn v)) (k : DState × DWorks × Int → Option γ) : cl_spec_pdTurn b0 s1 x2 income3 k = k v := cl_eq inj_spec_pdTurn h k
noncomputable def A_spec_l1Cur_working (ml_0 : Dl1Cur) : Option R := call G 16 [(AV.ptr (Id.l 0) none 0)] [(Id.l 0, some ⟨false, false, false, 0, cl1Cur ml_0⟩)]
def en_spec_l1Cur_working : (DBoard × DState × DWorks) × Dl1Cur → R := fun (a : (DBoard × DState × DWorks) × Dl1Cur) => (AV.tup [AV.agg (cBoard a.fst.fst), AV.agg [I a.fst.snd.fst.Turn, I a.fst.snd.fst.Weather, AV.own (Id.r 0 0) none 0 (List.length a.fst.snd.fst.Units) (List.length a.fst.snd.fst.Units)], AV.agg (cWorks a.fst.snd.snd)], [(Id.l 0, some { arr := false, fr := false, nest := false, esz := 0, cells := cl1Cur a.snd }), (Id.r 0 0, some (rowB true false 4 cUnit a.fst.snd.fst.Units))])
theorem inj_spec_l1Cur_working : Inj en_spec_l1Cur_working := fun a b h => by
  first | (simpa [en_spec_l1Cur_working, Prod.ext_iff, and_assoc] using h) | (obtain ⟨⟨⟨⟨_, _, _, _, _, _, _⟩, ⟨_, _, _, _, _⟩⟩, ⟨⟨_, _, _⟩, ⟨_, _, _, _⟩⟩⟩, _⟩ := a; obtain ⟨⟨⟨⟨_, _, _, _, _, _, _⟩, ⟨_, _, _, _, _⟩⟩, ⟨⟨_, _, _⟩, ⟨_, _, _, _⟩⟩⟩, _⟩ := b; simp [en_spec_l1Cur_working] at h ⊢; simp_all; done) | (obtain ⟨⟨⟨⟨_, _, _, _, _, _, _⟩, ⟨_, _, _, _, _⟩⟩, ⟨⟨_, _, _⟩, ⟨_, _, _, _⟩⟩⟩, _⟩ := a; obtain ⟨⟨⟨⟨_, _, _, _, _, _, _⟩, ⟨_, _, _, _, _⟩⟩, ⟨⟨_, _, _⟩, ⟨_, _, _, _⟩⟩⟩, _⟩ := b; simp [en_spec_l1Cur_working] at h; obtain ⟨h1, h2⟩ := h; have h3 := List.append_inj h2.2.2 h1.2.1.1; simp_all)
noncomputable def cl_spec_l1Cur_working {γ : Type} (ml_0 : Dl1Cur) (k : (DBoard × DState × DWorks) × Dl1Cur → Option γ) : Option γ := cl en_spec_l1Cur_working (call G) 16 [(AV.ptr (Id.l 0) none 0)] [(Id.l 0, some ⟨false, false, false, 0, cl1Cur ml_0⟩)] k
theorem ko_spec_l1Cur_working {γ : Type} (ml_0 : Dl1Cur) {Q : (DBoard × DState × DWorks) × Dl1Cur → Prop} (h : ∃ v, A_spec_l1Cur_working ml_0 = some (en_spec_l1Cur_working v) ∧ Q v) {k : (DBoard × DState × DWorks) × Dl1Cur → Option γ} {Q' : γ → Prop} (hk : ∀ v, Q v → OK (k v) Q') : OK (cl_spec_l1Cur_working ml_0 k) Q' := cl_ok inj_spec_l1Cur_working h hk
noncomputable def A_spec_l1Cur_income (ml_0 : Dl1Cur) : Option R := call G 17 [(AV.ptr (Id.l 0) none 0)] [(Id.l 0, some ⟨false, false, false, 0, cl1Cur ml_0⟩)]
def en_spec_l1Cur_income : Int × Dl1Cur → R := fun (a : Int × Dl1Cur) => (I a.fst, [(Id.l 0, some { arr := false, fr := false, nest := false, esz := 0, cells := cl1Cur a.snd })])
theorem inj_spec_l1Cur_income : Inj en_spec_l1Cur_income := fun a b h => by
  first | (simpa [en_spec_l1Cur_income, Prod.ext_iff, and_assoc] using h) | (obtain ⟨_, _⟩ := a; obtain ⟨_, _⟩ := b; simp [en_spec_l1Cur_income] at h ⊢; simp_all; done) | (obtain ⟨_, _⟩ := a; obtain ⟨_, _⟩ := b; simp [en_spec_l1Cur_income] at h; obtain ⟨h1, h2⟩ := h; have h3 := List.append_inj h2.2.2 h1.2.1.1; simp_all)
noncomputable def cl_spec_l1Cur_income {γ : Type} (ml_0 : Dl1Cur) (k : Int × Dl1Cur → Option γ) : Option γ := cl en_spec_l1Cur_income (call G) 17 [(AV.ptr (Id.l 0) none 0)] [(Id.l 0, some ⟨false, false, false, 0, cl1Cur ml_0⟩)] k
theorem ko_spec_l1Cur_income {γ : Type} (ml_0 : Dl1Cur) {Q : Int × Dl1Cur → Prop} (h : ∃ v, A_spec_l1Cur_income ml_0 = some (en_spec_l1Cur_income v) ∧ Q v) {k : Int × Dl1Cur → Option γ} {Q' : γ → Prop} (hk : ∀ v, Q v → OK (k v) Q') : OK (cl_spec_l1Cur_income ml_0 k) Q' := cl_ok inj_spec_l1Cur_income h hk
noncomputable def A_impl_isName (s0 : ByteArray) : Option R := call G 95 [(S s0)] []
def en_impl_isName : Bool → R := fun (a : Bool) => (B a, [])
theorem inj_impl_isName : Inj en_impl_isName := fun a b h => by
  first | (simpa [en_impl_isName, Prod.ext_iff, and_assoc] using h) | (obtain _ := a; obtain _ := b; simp [en_impl_isName] at h ⊢; simp_all; done) | (obtain _ := a; obtain _ := b; simp [en_impl_isName] at h; obtain ⟨h1, h2⟩ := h; have h3 := List.append_inj h2.2.2 h1.2.1.1; simp_all)
noncomputable def cl_impl_isName {γ : Type} (s0 : ByteArray) (k : Bool → Option γ) : Option γ := cl en_impl_isName (call G) 95 [(S s0)] [] k
theorem k_impl_isName {γ : Type} (s0 : ByteArray) {v : Bool} (h : A_impl_isName s0 = some (en_impl_isName v)) (k : Bool → Option γ) : cl_impl_isName s0 k = k v := cl_eq inj_impl_isName h k
noncomputable def A_impl_inRange (n0 : Int) (low1 : Int) (high2 : Int) : Option R := call G 25 [(I n0), (I low1), (I high2)] []
def en_impl_inRange : Bool → R := fun (a : Bool) => (B a, [])
theorem inj_impl_inRange : Inj en_impl_inRange := fun a b h => by
  first | (simpa [en_impl_inRange, Prod.ext_iff, and_assoc] using h) | (obtain _ := a; obtain _ := b; simp [en_impl_inRange] at h ⊢; simp_all; done) | (obtain _ := a; obtain _ := b; simp [en_impl_inRange] at h; obtain ⟨h1, h2⟩ := h; have h3 := List.append_inj h2.2.2 h1.2.1.1; simp_all)
noncomputable def cl_impl_inRange {γ : Type} (n0 : Int) (low1 : Int) (high2 : Int) (k : Bool → Option γ) : Option γ := cl en_impl_inRange (call G) 25 [(I n0), (I low1), (I high2)] [] k
theorem k_impl_inRange {γ : Type} (n0 : Int) (low1 : Int) (high2 : Int) {v : Bool} (h : A_impl_inRange n0 low1 high2 = some (en_impl_inRange v)) (k : Bool → Option γ) : cl_impl_inRange n0 low1 high2 k = k v := cl_eq inj_impl_inRange h k
noncomputable def A_spec_rGood (r0 : DRules) : Option R := call G 86 [(.agg (cRules r0))] []
def en_spec_rGood : Bool → R := fun (a : Bool) => (B a, [])
theorem inj_spec_rGood : Inj en_spec_rGood := fun a b h => by
  first | (simpa [en_spec_rGood, Prod.ext_iff, and_assoc] using h) | (obtain _ := a; obtain _ := b; simp [en_spec_rGood] at h ⊢; simp_all; done) | (obtain _ := a; obtain _ := b; simp [en_spec_rGood] at h; obtain ⟨h1, h2⟩ := h; have h3 := List.append_inj h2.2.2 h1.2.1.1; simp_all)
noncomputable def cl_spec_rGood {γ : Type} (r0 : DRules) (k : Bool → Option γ) : Option γ := cl en_spec_rGood (call G) 86 [(.agg (cRules r0))] [] k
theorem k_spec_rGood {γ : Type} (r0 : DRules) {v : Bool} (h : A_spec_rGood r0 = some (en_spec_rGood v)) (k : Bool → Option γ) : cl_spec_rGood r0 k = k v := cl_eq inj_spec_rGood h k
noncomputable def A_spec_mGood (m0 : DMap) : Option R := call G 87 [(.agg (cMap m0))] []
def en_spec_mGood : Bool → R := fun (a : Bool) => (B a, [])
theorem inj_spec_mGood : Inj en_spec_mGood := fun a b h => by
  first | (simpa [en_spec_mGood, Prod.ext_iff, and_assoc] using h) | (obtain _ := a; obtain _ := b; simp [en_spec_mGood] at h ⊢; simp_all; done) | (obtain _ := a; obtain _ := b; simp [en_spec_mGood] at h; obtain ⟨h1, h2⟩ := h; have h3 := List.append_inj h2.2.2 h1.2.1.1; simp_all)
noncomputable def cl_spec_mGood {γ : Type} (m0 : DMap) (k : Bool → Option γ) : Option γ := cl en_spec_mGood (call G) 87 [(.agg (cMap m0))] [] k
theorem k_spec_mGood {γ : Type} (m0 : DMap) {v : Bool} (h : A_spec_mGood m0 = some (en_spec_mGood v)) (k : Bool → Option γ) : cl_spec_mGood m0 k = k v := cl_eq inj_spec_mGood h k
noncomputable def A_spec_l1All (l0 : List Int) (lo1 : Int) (hi2 : Int) : Option R := call G 71 [(slc cI l0), (I lo1), (I hi2)] []
def en_spec_l1All : Bool → R := fun (a : Bool) => (B a, [])
theorem inj_spec_l1All : Inj en_spec_l1All := fun a b h => by
  first | (simpa [en_spec_l1All, Prod.ext_iff, and_assoc] using h) | (obtain _ := a; obtain _ := b; simp [en_spec_l1All] at h ⊢; simp_all; done) | (obtain _ := a; obtain _ := b; simp [en_spec_l1All] at h; obtain ⟨h1, h2⟩ := h; have h3 := List.append_inj h2.2.2 h1.2.1.1; simp_all)
noncomputable def cl_spec_l1All {γ : Type} (l0 : List Int) (lo1 : Int) (hi2 : Int) (k : Bool → Option γ) : Option γ := cl en_spec_l1All (call G) 71 [(slc cI l0), (I lo1), (I hi2)] [] k
theorem k_spec_l1All {γ : Type} (l0 : List Int) (lo1 : Int) (hi2 : Int) {v : Bool} (h : A_spec_l1All l0 lo1 hi2 = some (en_spec_l1All v)) (k : Bool → Option γ) : cl_spec_l1All l0 lo1 hi2 k = k v := cl_eq inj_spec_l1All h k
noncomputable def A_impl_nextTo (m0 : DMap) (i1 : Int) (d2 : Int) : Option R := call G 101 [(.agg (cMap m0)), (I i1), (I d2)] []
def en_impl_nextTo : Int → R := fun (a : Int) => (I a, [])
theorem inj_impl_nextTo : Inj en_impl_nextTo := fun a b h => by
  first | (simpa [en_impl_nextTo, Prod.ext_iff, and_assoc] using h) | (obtain _ := a; obtain _ := b; simp [en_impl_nextTo] at h ⊢; simp_all; done) | (obtain _ := a; obtain _ := b; simp [en_impl_nextTo] at h; obtain ⟨h1, h2⟩ := h; have h3 := List.append_inj h2.2.2 h1.2.1.1; simp_all)
noncomputable def cl_impl_nextTo {γ : Type} (m0 : DMap) (i1 : Int) (d2 : Int) (k : Int → Option γ) : Option γ := cl en_impl_nextTo (call G) 101 [(.agg (cMap m0)), (I i1), (I d2)] [] k
theorem k_impl_nextTo {γ : Type} (m0 : DMap) (i1 : Int) (d2 : Int) {v : Int} (h : A_impl_nextTo m0 i1 d2 = some (en_impl_nextTo v)) (k : Int → Option γ) : cl_impl_nextTo m0 i1 d2 k = k v := cl_eq inj_impl_nextTo h k
noncomputable def A_spec_mNext (m0 : DMap) (i1 : Int) (d2 : Int) : Option R := call G 116 [(.agg (cMap m0)), (I i1), (I d2)] []
def en_spec_mNext : Int → R := fun (a : Int) => (I a, [])
theorem inj_spec_mNext : Inj en_spec_mNext := fun a b h => by
  first | (simpa [en_spec_mNext, Prod.ext_iff, and_assoc] using h) | (obtain _ := a; obtain _ := b; simp [en_spec_mNext] at h ⊢; simp_all; done) | (obtain _ := a; obtain _ := b; simp [en_spec_mNext] at h; obtain ⟨h1, h2⟩ := h; have h3 := List.append_inj h2.2.2 h1.2.1.1; simp_all)
noncomputable def cl_spec_mNext {γ : Type} (m0 : DMap) (i1 : Int) (d2 : Int) (k : Int → Option γ) : Option γ := cl en_spec_mNext (call G) 116 [(.agg (cMap m0)), (I i1), (I d2)] [] k
theorem k_spec_mNext {γ : Type} (m0 : DMap) (i1 : Int) (d2 : Int) {v : Int} (h : A_spec_mNext m0 i1 d2 = some (en_spec_mNext v)) (k : Int → Option γ) : cl_spec_mNext m0 i1 d2 k = k v := cl_eq inj_spec_mNext h k
noncomputable def A_impl_IsBoard (b0 : DBoard) : Option R := call G 31 [(.agg (cBoard b0))] []
def en_impl_IsBoard : Bool → R := fun (a : Bool) => (B a, [])
theorem inj_impl_IsBoard : Inj en_impl_IsBoard := fun a b h => by
  first | (simpa [en_impl_IsBoard, Prod.ext_iff, and_assoc] using h) | (obtain _ := a; obtain _ := b; simp [en_impl_IsBoard] at h ⊢; simp_all; done) | (obtain _ := a; obtain _ := b; simp [en_impl_IsBoard] at h; obtain ⟨h1, h2⟩ := h; have h3 := List.append_inj h2.2.2 h1.2.1.1; simp_all)
noncomputable def cl_impl_IsBoard {γ : Type} (b0 : DBoard) (k : Bool → Option γ) : Option γ := cl en_impl_IsBoard (call G) 31 [(.agg (cBoard b0))] [] k
theorem k_impl_IsBoard {γ : Type} (b0 : DBoard) {v : Bool} (h : A_impl_IsBoard b0 = some (en_impl_IsBoard v)) (k : Bool → Option γ) : cl_impl_IsBoard b0 k = k v := cl_eq inj_impl_IsBoard h k
noncomputable def A_impl_goodState (b0 : DBoard) (s1 : DState) : Option R := call G 32 [(.agg (cBoard b0)), (.agg (cState s1))] []
def en_impl_goodState : Bool → R := fun (a : Bool) => (B a, [])
theorem inj_impl_goodState : Inj en_impl_goodState := fun a b h => by
  first | (simpa [en_impl_goodState, Prod.ext_iff, and_assoc] using h) | (obtain _ := a; obtain _ := b; simp [en_impl_goodState] at h ⊢; simp_all; done) | (obtain _ := a; obtain _ := b; simp [en_impl_goodState] at h; obtain ⟨h1, h2⟩ := h; have h3 := List.append_inj h2.2.2 h1.2.1.1; simp_all)
noncomputable def cl_impl_goodState {γ : Type} (b0 : DBoard) (s1 : DState) (k : Bool → Option γ) : Option γ := cl en_impl_goodState (call G) 32 [(.agg (cBoard b0)), (.agg (cState s1))] [] k
theorem k_impl_goodState {γ : Type} (b0 : DBoard) (s1 : DState) {v : Bool} (h : A_impl_goodState b0 s1 = some (en_impl_goodState v)) (k : Bool → Option γ) : cl_impl_goodState b0 s1 k = k v := cl_eq inj_impl_goodState h k
noncomputable def A_spec_l1Own (l0 : List Int) : Option R := call G 50 [(slc cI l0)] []
def en_spec_l1Own : List Int → R := fun (a : List Int) => (slc cI a, [])
theorem inj_spec_l1Own : Inj en_spec_l1Own := fun a b h => by
  first | (simpa [en_spec_l1Own, Prod.ext_iff, and_assoc] using h) | (obtain _ := a; obtain _ := b; simp [en_spec_l1Own] at h ⊢; simp_all; done) | (obtain _ := a; obtain _ := b; simp [en_spec_l1Own] at h; obtain ⟨h1, h2⟩ := h; have h3 := List.append_inj h2.2.2 h1.2.1.1; simp_all)
noncomputable def cl_spec_l1Own {γ : Type} (l0 : List Int) (k : List Int → Option γ) : Option γ := cl en_spec_l1Own (call G) 50 [(slc cI l0)] [] k
theorem k_spec_l1Own {γ : Type} (l0 : List Int) {v : List Int} (h : A_spec_l1Own l0 = some (en_spec_l1Own v)) (k : List Int → Option γ) : cl_spec_l1Own l0 k = k v := cl_eq inj_spec_l1Own h k
noncomputable def A_spec_bTerrain (b0 : DBoard) (i1 : Int) : Option R := call G 93 [(.agg (cBoard b0)), (I i1)] []
def en_spec_bTerrain : DTerrain → R := fun (a : DTerrain) => (AV.agg (cTerrain a), [])
theorem inj_spec_bTerrain : Inj en_spec_bTerrain := fun a b h => by
  first | (simpa [en_spec_bTerrain, Prod.ext_iff, and_assoc] using h) | (obtain ⟨_, _, _, _, _⟩ := a; obtain ⟨_, _, _, _, _⟩ := b; simp [en_spec_bTerrain] at h ⊢; simp_all; done) | (obtain ⟨_, _, _, _, _⟩ := a; obtain ⟨_, _, _, _, _⟩ := b; simp [en_spec_bTerrain] at h; obtain ⟨h1, h2⟩ := h; have h3 := List.append_inj h2.2.2 h1.2.1.1; simp_all)
noncomputable def cl_spec_bTerrain {γ : Type} (b0 : DBoard) (i1 : Int) (k : DTerrain → Option γ) : Option γ := cl en_spec_bTerrain (call G) 93 [(.agg (cBoard b0)), (I i1)] [] k
theorem k_spec_bTerrain {γ : Type} (b0 : DBoard) (i1 : Int) {v : DTerrain} (h : A_spec_bTerrain b0 i1 = some (en_spec_bTerrain v)) (k : DTerrain → Option γ) : cl_spec_bTerrain b0 i1 k = k v := cl_eq inj_spec_bTerrain h k
noncomputable def A_slices_IndexFunc_Kind_of_impl_kindIndex_1 (ml_0f0 : ByteArray) (s0 : List DKind) : Option R := call G 99 [(slc cKind s0), (.clo 100 [(AV.ptr (Id.l 0) none 0)])] [(Id.l 0, some ⟨false, false, false, 0, [(S ml_0f0)]⟩)]
def en_slices_IndexFunc_Kind_of_impl_kindIndex_1 : Int × ByteArray → R := fun (a : Int × ByteArray) => (I a.fst, [(Id.l 0, some { arr := false, fr := false, nest := false, esz := 0, cells := [S a.snd] })])
theorem inj_slices_IndexFunc_Kind_of_impl_kindIndex_1 : Inj en_slices_IndexFunc_Kind_of_impl_kindIndex_1 := fun a b h => by
  first | (simpa [en_slices_IndexFunc_Kind_of_impl_kindIndex_1, Prod.ext_iff, and_assoc] using h) | (obtain ⟨_, _⟩ := a; obtain ⟨_, _⟩ := b; simp [en_slices_IndexFunc_Kind_of_impl_kindIndex_1] at h ⊢; simp_all; done) | (obtain ⟨_, _⟩ := a; obtain ⟨_, _⟩ := b; simp [en_slices_IndexFunc_Kind_of_impl_kindIndex_1] at h; obtain ⟨h1, h2⟩ := h; have h3 := List.append_inj h2.2.2 h1.2.1.1; simp_all)
noncomputable def cl_slices_IndexFunc_Kind_of_impl_kindIndex_1 {γ : Type} (ml_0f0 : ByteArray) (s0 : List DKind) (k : Int × ByteArray → Option γ) : Option γ := cl en_slices_IndexFunc_Kind_of_impl_kindIndex_1 (call G) 99 [(slc cKind s0), (.clo 100 [(AV.ptr (Id.l 0) none 0)])] [(Id.l 0, some ⟨false, false, false, 0, [(S ml_0f0)]⟩)] k
theorem k_slices_IndexFunc_Kind_of_impl_kindIndex_1 {γ : Type} (ml_0f0 : ByteArray) (s0 : List DKind) {v : Int × ByteArray} (h : A_slices_IndexFunc_Kind_of_impl_kindIndex_1 ml_0f0 s0 = some (en_slices_IndexFunc_Kind_of_impl_kindIndex_1 v)) (k : Int × ByteArray → Option γ) : cl_slices_IndexFunc_Kind_of_impl_kindIndex_1 ml_0f0 s0 k = k v := cl_eq inj_slices_IndexFunc_Kind_of_impl_kindIndex_1 h k
noncomputable def A_impl_kindIndex_1 (ml_0f0 : ByteArray) (k0 : DKind) : Option R := call G 100 [(.agg (cKind k0)), (AV.ptr (Id.l 0) none 0)] [(Id.l 0, some ⟨false, false, false, 0, [(S ml_0f0)]⟩)]
def en_impl_kindIndex_1 : Bool × ByteArray → R := fun (a : Bool × ByteArray) => (B a.fst, [(Id.l 0, some { arr := false, fr := false, nest := false, esz := 0, cells := [S a.snd] })])
theorem inj_impl_kindIndex_1 : Inj en_impl_kindIndex_1 := fun a b h => by
  first | (simpa [en_impl_kindIndex_1, Prod.ext_iff, and_assoc] using h) | (obtain ⟨_, _⟩ := a; obtain ⟨_, _⟩ := b; simp [en_impl_kindIndex_1] at h ⊢; simp_all; done) | (obtain ⟨_, _⟩ := a; obtain ⟨_, _⟩ := b; simp [en_impl_kindIndex_1] at h; obtain ⟨h1, h2⟩ := h; have h3 := List.append_inj h2.2.2 h1.2.1.1; simp_all)
noncomputable def cl_impl_kindIndex_1 {γ : Type} (ml_0f0 : ByteArray) (k0 : DKind) (k : Bool × ByteArray → Option γ) : Option γ := cl en_impl_kindIndex_1 (call G) 100 [(.agg (cKind k0)), (AV.ptr (Id.l 0) none 0)] [(Id.l 0, some ⟨false, false, false, 0, [(S ml_0f0)]⟩)] k
theorem k_impl_kindIndex_1 {γ : Type} (ml_0f0 : ByteArray) (k0 : DKind) {v : Bool × ByteArray} (h : A_impl_kindIndex_1 ml_0f0 k0 = some (en_impl_kindIndex_1 v)) (k : Bool × ByteArray → Option γ) : cl_impl_kindIndex_1 ml_0f0 k0 k = k v := cl_eq inj_impl_kindIndex_1 h k
noncomputable def A_spec_pdCode (b0 : DBoard) (s1 : DState) (x2 : DWorks) : Option R := call G 45 [(.agg (cBoard b0)), (.agg (cState s1)), (.agg (cWorks x2))] []
def en_spec_pdCode : Int → R := fun (a : Int) => (I a, [])
theorem inj_spec_pdCode : Inj en_spec_pdCode := fun a b h => by
  first | (simpa [en_spec_pdCode, Prod.ext_iff, and_assoc] using h) | (obtain _ := a; obtain _ := b; simp [en_spec_pdCode] at h ⊢; simp_all; done) | (obtain _ := a; obtain _ := b; simp [en_spec_pdCode] at h; obtain ⟨h1, h2⟩ := h; have h3 := List.append_inj h2.2.2 h1.2.1.1; simp_all)
noncomputable def cl_spec_pdCode {γ : Type} (b0 : DBoard) (s1 : DState) (x2 : DWorks) (k : Int → Option γ) : Option γ := cl en_spec_pdCode (call G) 45 [(.agg (cBoard b0)), (.agg (cState s1)), (.agg (cWorks x2))] [] k
theorem k_spec_pdCode {γ : Type} (b0 : DBoard) (s1 : DState) (x2 : DWorks) {v : Int} (h : A_spec_pdCode b0 s1 x2 = some (en_spec_pdCode v)) (k : Int → Option γ) : cl_spec_pdCode b0 s1 x2 k = k v := cl_eq inj_spec_pdCode h k
noncomputable def A_spec_sUnit (b0 : DBoard) (u1 : DUnit) : Option R := call G 68 [(.agg (cBoard b0)), (.agg (cUnit u1))] []
def en_spec_sUnit : Bool → R := fun (a : Bool) => (B a, [])
theorem inj_spec_sUnit : Inj en_spec_sUnit := fun a b h => by
  first | (simpa [en_spec_sUnit, Prod.ext_iff, and_assoc] using h) | (obtain _ := a; obtain _ := b; simp [en_spec_sUnit] at h ⊢; simp_all; done) | (obtain _ := a; obtain _ := b; simp [en_spec_sUnit] at h; obtain ⟨h1, h2⟩ := h; have h3 := List.append_inj h2.2.2 h1.2.1.1; simp_all)
noncomputable def cl_spec_sUnit {γ : Type} (b0 : DBoard) (u1 : DUnit) (k : Bool → Option γ) : Option γ := cl en_spec_sUnit (call G) 68 [(.agg (cBoard b0)), (.agg (cUnit u1))] [] k
theorem k_spec_sUnit {γ : Type} (b0 : DBoard) (u1 : DUnit) {v : Bool} (h : A_spec_sUnit b0 u1 = some (en_spec_sUnit v)) (k : Bool → Option γ) : cl_spec_sUnit b0 u1 k = k v := cl_eq inj_spec_sUnit h k
noncomputable def A_spec_zSources (b0 : DBoard) (s1 : DState) (side2 : Int) (i3 : Int) : Option R := call G 94 [(.agg (cBoard b0)), (.agg (cState s1)), (I side2), (I i3)] []
def en_spec_zSources : List Int → R := fun (a : List Int) => (slc cI a, [])
theorem inj_spec_zSources : Inj en_spec_zSources := fun a b h => by
  first | (simpa [en_spec_zSources, Prod.ext_iff, and_assoc] using h) | (obtain _ := a; obtain _ := b; simp [en_spec_zSources] at h ⊢; simp_all; done) | (obtain _ := a; obtain _ := b; simp [en_spec_zSources] at h; obtain ⟨h1, h2⟩ := h; have h3 := List.append_inj h2.2.2 h1.2.1.1; simp_all)
noncomputable def cl_spec_zSources {γ : Type} (b0 : DBoard) (s1 : DState) (side2 : Int) (i3 : Int) (k : List Int → Option γ) : Option γ := cl en_spec_zSources (call G) 94 [(.agg (cBoard b0)), (.agg (cState s1)), (I side2), (I i3)] [] k
theorem k_spec_zSources {γ : Type} (b0 : DBoard) (s1 : DState) (side2 : Int) (i3 : Int) {v : List Int} (h : A_spec_zSources b0 s1 side2 i3 = some (en_spec_zSources v)) (k : List Int → Option γ) : cl_spec_zSources b0 s1 side2 i3 k = k v := cl_eq inj_spec_zSources h k
noncomputable def A_impl_indexOf (m0 : DMap) (h1 : DHex) : Option R := call G 112 [(.agg (cMap m0)), (.agg (cHex h1))] []
def en_impl_indexOf : Int → R := fun (a : Int) => (I a, [])
theorem inj_impl_indexOf : Inj en_impl_indexOf := fun a b h => by
  first | (simpa [en_impl_indexOf, Prod.ext_iff, and_assoc] using h) | (obtain _ := a; obtain _ := b; simp [en_impl_indexOf] at h ⊢; simp_all; done) | (obtain _ := a; obtain _ := b; simp [en_impl_indexOf] at h; obtain ⟨h1, h2⟩ := h; have h3 := List.append_inj h2.2.2 h1.2.1.1; simp_all)
noncomputable def cl_impl_indexOf {γ : Type} (m0 : DMap) (h1 : DHex) (k : Int → Option γ) : Option γ := cl en_impl_indexOf (call G) 112 [(.agg (cMap m0)), (.agg (cHex h1))] [] k
theorem k_impl_indexOf {γ : Type} (m0 : DMap) (h1 : DHex) {v : Int} (h : A_impl_indexOf m0 h1 = some (en_impl_indexOf v)) (k : Int → Option γ) : cl_impl_indexOf m0 h1 k = k v := cl_eq inj_impl_indexOf h k
noncomputable def A_spec_l1Cur_anyBoard (ml_0 : Dl1Cur) : Option R := call G 60 [(AV.ptr (Id.l 0) none 0)] [(Id.l 0, some ⟨false, false, false, 0, cl1Cur ml_0⟩)]
def en_spec_l1Cur_anyBoard : DBoard × Dl1Cur → R := fun (a : DBoard × Dl1Cur) => (AV.agg (cBoard a.fst), [(Id.l 0, some { arr := false, fr := false, nest := false, esz := 0, cells := cl1Cur a.snd })])
theorem inj_spec_l1Cur_anyBoard : Inj en_spec_l1Cur_anyBoard := fun a b h => by
  first | (simpa [en_spec_l1Cur_anyBoard, Prod.ext_iff, and_assoc] using h) | (obtain ⟨⟨⟨_, _, _, _, _, _, _⟩, ⟨_, _, _, _, _⟩⟩, _⟩ := a; obtain ⟨⟨⟨_, _, _, _, _, _, _⟩, ⟨_, _, _, _, _⟩⟩, _⟩ := b; simp [en_spec_l1Cur_anyBoard] at h ⊢; simp_all; done) | (obtain ⟨⟨⟨_, _, _, _, _, _, _⟩, ⟨_, _, _, _, _⟩⟩, _⟩ := a; obtain ⟨⟨⟨_, _, _, _, _, _, _⟩, ⟨_, _, _, _, _⟩⟩, _⟩ := b; simp [en_spec_l1Cur_anyBoard] at h; obtain ⟨h1, h2⟩ := h; have h3 := List.append_inj h2.2.2 h1.2.1.1; simp_all)
noncomputable def cl_spec_l1Cur_anyBoard {γ : Type} (ml_0 : Dl1Cur) (k : DBoard × Dl1Cur → Option γ) : Option γ := cl en_spec_l1Cur_anyBoard (call G) 60 [(AV.ptr (Id.l 0) none 0)] [(Id.l 0, some ⟨false, false, false, 0, cl1Cur ml_0⟩)] k
theorem ko_spec_l1Cur_anyBoard {γ : Type} (ml_0 : Dl1Cur) {Q : DBoard × Dl1Cur → Prop} (h : ∃ v, A_spec_l1Cur_anyBoard ml_0 = some (en_spec_l1Cur_anyBoard v) ∧ Q v) {k : DBoard × Dl1Cur → Option γ} {Q' : γ → Prop} (hk : ∀ v, Q v → OK (k v) Q') : OK (cl_spec_l1Cur_anyBoard ml_0 k) Q' := cl_ok inj_spec_l1Cur_anyBoard h hk
noncomputable def A_spec_pdPrice (b0 : DBoard) (kind1 : Int) : Option R := call G 46 [(.agg (cBoard b0)), (I kind1)] []
def en_spec_pdPrice : Int → R := fun (a : Int) => (I a, [])
theorem inj_spec_pdPrice : Inj en_spec_pdPrice := fun a b h => by
  first | (simpa [en_spec_pdPrice, Prod.ext_iff, and_assoc] using h) | (obtain _ := a; obtain _ := b; simp [en_spec_pdPrice] at h ⊢; simp_all; done) | (obtain _ := a; obtain _ := b; simp [en_spec_pdPrice] at h; obtain ⟨h1, h2⟩ := h; have h3 := List.append_inj h2.2.2 h1.2.1.1; simp_all)
noncomputable def cl_spec_pdPrice {γ : Type} (b0 : DBoard) (kind1 : Int) (k : Int → Option γ) : Option γ := cl en_spec_pdPrice (call G) 46 [(.agg (cBoard b0)), (I kind1)] [] k
theorem k_spec_pdPrice {γ : Type} (b0 : DBoard) (kind1 : Int) {v : Int} (h : A_spec_pdPrice b0 kind1 = some (en_spec_pdPrice v)) (k : Int → Option γ) : cl_spec_pdPrice b0 kind1 k = k v := cl_eq inj_spec_pdPrice h k
noncomputable def A_impl_terrainAt (b0 : DBoard) (i1 : Int) : Option R := call G 89 [(.agg (cBoard b0)), (I i1)] []
def en_impl_terrainAt : DTerrain → R := fun (a : DTerrain) => (AV.agg (cTerrain a), [])
theorem inj_impl_terrainAt : Inj en_impl_terrainAt := fun a b h => by
  first | (simpa [en_impl_terrainAt, Prod.ext_iff, and_assoc] using h) | (obtain ⟨_, _, _, _, _⟩ := a; obtain ⟨_, _, _, _, _⟩ := b; simp [en_impl_terrainAt] at h ⊢; simp_all; done) | (obtain ⟨_, _, _, _, _⟩ := a; obtain ⟨_, _, _, _, _⟩ := b; simp [en_impl_terrainAt] at h; obtain ⟨h1, h2⟩ := h; have h3 := List.append_inj h2.2.2 h1.2.1.1; simp_all)
noncomputable def cl_impl_terrainAt {γ : Type} (b0 : DBoard) (i1 : Int) (k : DTerrain → Option γ) : Option γ := cl en_impl_terrainAt (call G) 89 [(.agg (cBoard b0)), (I i1)] [] k
theorem k_impl_terrainAt {γ : Type} (b0 : DBoard) (i1 : Int) {v : DTerrain} (h : A_impl_terrainAt b0 i1 = some (en_impl_terrainAt v)) (k : DTerrain → Option γ) : cl_impl_terrainAt b0 i1 k = k v := cl_eq inj_impl_terrainAt h k
noncomputable def A_spec_l1Cur_game (ml_0 : Dl1Cur) : Option R := call G 36 [(AV.ptr (Id.l 0) none 0)] [(Id.l 0, some ⟨false, false, false, 0, cl1Cur ml_0⟩)]
noncomputable def A_impl_cloneWorks (x0 : DWorks) : Option R := call G 27 [(.agg (cWorks x0))] []
def en_impl_cloneWorks : DWorks → R := fun (a : DWorks) => (AV.agg (cWorks a), [])
theorem inj_impl_cloneWorks : Inj en_impl_cloneWorks := fun a b h => by
  first | (simpa [en_impl_cloneWorks, Prod.ext_iff, and_assoc] using h) | (obtain ⟨_, _, _, _⟩ := a; obtain ⟨_, _, _, _⟩ := b; simp [en_impl_cloneWorks] at h ⊢; simp_all; done) | (obtain ⟨_, _, _, _⟩ := a; obtain ⟨_, _, _, _⟩ := b; simp [en_impl_cloneWorks] at h; obtain ⟨h1, h2⟩ := h; have h3 := List.append_inj h2.2.2 h1.2.1.1; simp_all)
noncomputable def cl_impl_cloneWorks {γ : Type} (x0 : DWorks) (k : DWorks → Option γ) : Option γ := cl en_impl_cloneWorks (call G) 27 [(.agg (cWorks x0))] [] k
theorem k_impl_cloneWorks {γ : Type} (x0 : DWorks) {v : DWorks} (h : A_impl_cloneWorks x0 = some (en_impl_cloneWorks v)) (k : DWorks → Option γ) : cl_impl_cloneWorks x0 k = k v := cl_eq inj_impl_cloneWorks h k
noncomputable def A_impl_sizeOf (b0 : DBoard) : Option R := call G 55 [(.agg (cBoard b0))] []
def en_impl_sizeOf : Int → R := fun (a : Int) => (I a, [])
theorem inj_impl_sizeOf : Inj en_impl_sizeOf := fun a b h => by
  first | (simpa [en_impl_sizeOf, Prod.ext_iff, and_assoc] using h) | (obtain _ := a; obtain _ := b; simp [en_impl_sizeOf] at h ⊢; simp_all; done) | (obtain _ := a; obtain _ := b; simp [en_impl_sizeOf] at h; obtain ⟨h1, h2⟩ := h; have h3 := List.append_inj h2.2.2 h1.2.1.1; simp_all)
noncomputable def cl_impl_sizeOf {γ : Type} (b0 : DBoard) (k : Int → Option γ) : Option γ := cl en_impl_sizeOf (call G) 55 [(.agg (cBoard b0))] [] k
theorem k_impl_sizeOf {γ : Type} (b0 : DBoard) {v : Int} (h : A_impl_sizeOf b0 = some (en_impl_sizeOf v)) (k : Int → Option γ) : cl_impl_sizeOf b0 k = k v := cl_eq inj_impl_sizeOf h k
noncomputable def A_impl_isIncome (n0 : Int) : Option R := call G 19 [(I n0)] []
def en_impl_isIncome : Bool → R := fun (a : Bool) => (B a, [])
theorem inj_impl_isIncome : Inj en_impl_isIncome := fun a b h => by
  first | (simpa [en_impl_isIncome, Prod.ext_iff, and_assoc] using h) | (obtain _ := a; obtain _ := b; simp [en_impl_isIncome] at h ⊢; simp_all; done) | (obtain _ := a; obtain _ := b; simp [en_impl_isIncome] at h; obtain ⟨h1, h2⟩ := h; have h3 := List.append_inj h2.2.2 h1.2.1.1; simp_all)
noncomputable def cl_impl_isIncome {γ : Type} (n0 : Int) (k : Bool → Option γ) : Option γ := cl en_impl_isIncome (call G) 19 [(I n0)] [] k
theorem k_impl_isIncome {γ : Type} (n0 : Int) {v : Bool} (h : A_impl_isIncome n0 = some (en_impl_isIncome v)) (k : Bool → Option γ) : cl_impl_isIncome n0 k = k v := cl_eq inj_impl_isIncome h k
noncomputable def A_spec_sOwner (s0 : DState) (i1 : Int) : Option R := call G 73 [(.agg (cState s0)), (I i1)] []
def en_spec_sOwner : Int → R := fun (a : Int) => (I a, [])
theorem inj_spec_sOwner : Inj en_spec_sOwner := fun a b h => by
  first | (simpa [en_spec_sOwner, Prod.ext_iff, and_assoc] using h) | (obtain _ := a; obtain _ := b; simp [en_spec_sOwner] at h ⊢; simp_all; done) | (obtain _ := a; obtain _ := b; simp [en_spec_sOwner] at h; obtain ⟨h1, h2⟩ := h; have h3 := List.append_inj h2.2.2 h1.2.1.1; simp_all)
noncomputable def cl_spec_sOwner {γ : Type} (s0 : DState) (i1 : Int) (k : Int → Option γ) : Option γ := cl en_spec_sOwner (call G) 73 [(.agg (cState s0)), (I i1)] [] k
theorem k_spec_sOwner {γ : Type} (s0 : DState) (i1 : Int) {v : Int} (h : A_spec_sOwner s0 i1 = some (en_spec_sOwner v)) (k : Int → Option γ) : cl_spec_sOwner s0 i1 k = k v := cl_eq inj_spec_sOwner h k
noncomputable def A_spec_sAt (s0 : DState) (i1 : Int) (side2 : Int) : Option R := call G 69 [(.agg (cState s0)), (I i1), (I side2)] []
def en_spec_sAt : List Int → R := fun (a : List Int) => (slc cI a, [])
theorem inj_spec_sAt : Inj en_spec_sAt := fun a b h => by
  first | (simpa [en_spec_sAt, Prod.ext_iff, and_assoc] using h) | (obtain _ := a; obtain _ := b; simp [en_spec_sAt] at h ⊢; simp_all; done) | (obtain _ := a; obtain _ := b; simp [en_spec_sAt] at h; obtain ⟨h1, h2⟩ := h; have h3 := List.append_inj h2.2.2 h1.2.1.1; simp_all)
noncomputable def cl_spec_sAt {γ : Type} (s0 : DState) (i1 : Int) (side2 : Int) (k : List Int → Option γ) : Option γ := cl en_spec_sAt (call G) 69 [(.agg (cState s0)), (I i1), (I side2)] [] k
theorem k_spec_sAt {γ : Type} (s0 : DState) (i1 : Int) (side2 : Int) {v : List Int} (h : A_spec_sAt s0 i1 side2 = some (en_spec_sAt v)) (k : List Int → Option γ) : cl_spec_sAt s0 i1 side2 k = k v := cl_eq inj_spec_sAt h k
noncomputable def A_spec_zIn (b0 : DBoard) (s1 : DState) (i2 : Int) (side3 : Int) : Option R := call G 74 [(.agg (cBoard b0)), (.agg (cState s1)), (I i2), (I side3)] []
def en_spec_zIn : Bool → R := fun (a : Bool) => (B a, [])
theorem inj_spec_zIn : Inj en_spec_zIn := fun a b h => by
  first | (simpa [en_spec_zIn, Prod.ext_iff, and_assoc] using h) | (obtain _ := a; obtain _ := b; simp [en_spec_zIn] at h ⊢; simp_all; done) | (obtain _ := a; obtain _ := b; simp [en_spec_zIn] at h; obtain ⟨h1, h2⟩ := h; have h3 := List.append_inj h2.2.2 h1.2.1.1; simp_all)
noncomputable def cl_spec_zIn {γ : Type} (b0 : DBoard) (s1 : DState) (i2 : Int) (side3 : Int) (k : Bool → Option γ) : Option γ := cl en_spec_zIn (call G) 74 [(.agg (cBoard b0)), (.agg (cState s1)), (I i2), (I side3)] [] k
theorem k_spec_zIn {γ : Type} (b0 : DBoard) (s1 : DState) (i2 : Int) (side3 : Int) {v : Bool} (h : A_spec_zIn b0 s1 i2 side3 = some (en_spec_zIn v)) (k : Bool → Option γ) : cl_spec_zIn b0 s1 i2 side3 k = k v := cl_eq inj_spec_zIn h k
noncomputable def A_impl_isProduction (b0 : DBoard) (s1 : DState) (x2 : DWorks) : Option R := call G 18 [(.agg (cBoard b0)), (.agg (cState s1)), (.agg (cWorks x2))] []
def en_impl_isProduction : Bool → R := fun (a : Bool) => (B a, [])
theorem inj_impl_isProduction : Inj en_impl_isProduction := fun a b h => by
  first | (simpa [en_impl_isProduction, Prod.ext_iff, and_assoc] using h) | (obtain _ := a; obtain _ := b; simp [en_impl_isProduction] at h ⊢; simp_all; done) | (obtain _ := a; obtain _ := b; simp [en_impl_isProduction] at h; obtain ⟨h1, h2⟩ := h; have h3 := List.append_inj h2.2.2 h1.2.1.1; simp_all)
noncomputable def cl_impl_isProduction {γ : Type} (b0 : DBoard) (s1 : DState) (x2 : DWorks) (k : Bool → Option γ) : Option γ := cl en_impl_isProduction (call G) 18 [(.agg (cBoard b0)), (.agg (cState s1)), (.agg (cWorks x2))] [] k
theorem k_impl_isProduction {γ : Type} (b0 : DBoard) (s1 : DState) (x2 : DWorks) {v : Bool} (h : A_impl_isProduction b0 s1 x2 = some (en_impl_isProduction v)) (k : Bool → Option γ) : cl_impl_isProduction b0 s1 x2 k = k v := cl_eq inj_impl_isProduction h k
noncomputable def A_impl_produceTurn (b0 : DBoard) (s1 : DState) (x2 : DWorks) (income3 : Int) : Option R := call G 20 [(.agg (cBoard b0)), (.agg (cState s1)), (.agg (cWorks x2)), (I income3)] []
def en_impl_produceTurn : DState × DWorks × Int → R := fun (a : DState × DWorks × Int) => (AV.tup [AV.agg [I a.fst.Turn, I a.fst.Weather, AV.own (Id.r 0 0) none 0 (List.length a.fst.Units) (List.length a.fst.Units)], AV.agg (cWorks a.snd.fst), I a.snd.snd], [(Id.r 0 0, some (rowB true false 4 cUnit a.fst.Units))])
theorem inj_impl_produceTurn : Inj en_impl_produceTurn := fun a b h => by
  first | (simpa [en_impl_produceTurn, Prod.ext_iff, and_assoc] using h) | (obtain ⟨⟨_, _, _⟩, ⟨⟨_, _, _, _⟩, _⟩⟩ := a; obtain ⟨⟨_, _, _⟩, ⟨⟨_, _, _, _⟩, _⟩⟩ := b; simp [en_impl_produceTurn] at h ⊢; simp_all; done) | (obtain ⟨⟨_, _, _⟩, ⟨⟨_, _, _, _⟩, _⟩⟩ := a; obtain ⟨⟨_, _, _⟩, ⟨⟨_, _, _, _⟩, _⟩⟩ := b; simp [en_impl_produceTurn] at h; obtain ⟨h1, h2⟩ := h; have h3 := List.append_inj h2.2.2 h1.2.1.1; simp_all)
noncomputable def cl_impl_produceTurn {γ : Type} (b0 : DBoard) (s1 : DState) (x2 : DWorks) (income3 : Int) (k : DState × DWorks × Int → Option γ) : Option γ := cl en_impl_produceTurn (call G) 20 [(.agg (cBoard b0)), (.agg (cState s1)), (.agg (cWorks x2)), (I income3)] [] k
theorem k_impl_produceTurn {γ : Type} (b0 : DBoard) (s1 : DState) (x2 : DWorks) (income3 : Int) {v : DState × DWorks × Int} (h : A_impl_produceTurn b0 s1 x2 income3 = some (en_impl_produceTurn v)) (k : DState × DWorks × Int → Option γ) : cl_impl_produceTurn b0 s1 x2 income3 k = k v := cl_eq inj_impl_produceTurn h k
noncomputable def A_impl_isIndex (i0 : Int) (many1 : Int) : Option R := call G 58 [(I i0), (I many1)] []
def en_impl_isIndex : Bool → R := fun (a : Bool) => (B a, [])
theorem inj_impl_isIndex : Inj en_impl_isIndex := fun a b h => by
  first | (simpa [en_impl_isIndex, Prod.ext_iff, and_assoc] using h) | (obtain _ := a; obtain _ := b; simp [en_impl_isIndex] at h ⊢; simp_all; done) | (obtain _ := a; obtain _ := b; simp [en_impl_isIndex] at h; obtain ⟨h1, h2⟩ := h; have h3 := List.append_inj h2.2.2 h1.2.1.1; simp_all)
noncomputable def cl_impl_isIndex {γ : Type} (i0 : Int) (many1 : Int) (k : Bool → Option γ) : Option γ := cl en_impl_isIndex (call G) 58 [(I i0), (I many1)] [] k
theorem k_impl_isIndex {γ : Type} (i0 : Int) (many1 : Int) {v : Bool} (h : A_impl_isIndex i0 many1 = some (en_impl_isIndex v)) (k : Bool → Option γ) : cl_impl_isIndex i0 many1 k = k v := cl_eq inj_impl_isIndex h k
noncomputable def A_spec_l1Cur_board (ml_0 : Dl1Cur) : Option R := call G 82 [(AV.ptr (Id.l 0) none 0)] [(Id.l 0, some ⟨false, false, false, 0, cl1Cur ml_0⟩)]
def en_spec_l1Cur_board : DBoard × Dl1Cur → R := fun (a : DBoard × Dl1Cur) => (AV.agg (cBoard a.fst), [(Id.l 0, some { arr := false, fr := false, nest := false, esz := 0, cells := cl1Cur a.snd })])
theorem inj_spec_l1Cur_board : Inj en_spec_l1Cur_board := fun a b h => by
  first | (simpa [en_spec_l1Cur_board, Prod.ext_iff, and_assoc] using h) | (obtain ⟨⟨⟨_, _, _, _, _, _, _⟩, ⟨_, _, _, _, _⟩⟩, _⟩ := a; obtain ⟨⟨⟨_, _, _, _, _, _, _⟩, ⟨_, _, _, _, _⟩⟩, _⟩ := b; simp [en_spec_l1Cur_board] at h ⊢; simp_all; done) | (obtain ⟨⟨⟨_, _, _, _, _, _, _⟩, ⟨_, _, _, _, _⟩⟩, _⟩ := a; obtain ⟨⟨⟨_, _, _, _, _, _, _⟩, ⟨_, _, _, _, _⟩⟩, _⟩ := b; simp [en_spec_l1Cur_board] at h; obtain ⟨h1, h2⟩ := h; have h3 := List.append_inj h2.2.2 h1.2.1.1; simp_all)
noncomputable def cl_spec_l1Cur_board {γ : Type} (ml_0 : Dl1Cur) (k : DBoard × Dl1Cur → Option γ) : Option γ := cl en_spec_l1Cur_board (call G) 82 [(AV.ptr (Id.l 0) none 0)] [(Id.l 0, some ⟨false, false, false, 0, cl1Cur ml_0⟩)] k
theorem ko_spec_l1Cur_board {γ : Type} (ml_0 : Dl1Cur) {Q : DBoard × Dl1Cur → Prop} (h : ∃ v, A_spec_l1Cur_board ml_0 = some (en_spec_l1Cur_board v) ∧ Q v) {k : DBoard × Dl1Cur → Option γ} {Q' : γ → Prop} (hk : ∀ v, Q v → OK (k v) Q') : OK (cl_spec_l1Cur_board ml_0 k) Q' := cl_ok inj_spec_l1Cur_board h hk
noncomputable def A_spec_l1Cur_pick (ml_0 : Dl1Cur) (n1 : Int) : Option R := call G 39 [(AV.ptr (Id.l 0) none 0), (I n1)] [(Id.l 0, some ⟨false, false, false, 0, cl1Cur ml_0⟩)]
def en_spec_l1Cur_pick : Int × Dl1Cur → R := fun (a : Int × Dl1Cur) => (I a.fst, [(Id.l 0, some { arr := false, fr := false, nest := false, esz := 0, cells := cl1Cur a.snd })])
theorem inj_spec_l1Cur_pick : Inj en_spec_l1Cur_pick := fun a b h => by
  first | (simpa [en_spec_l1Cur_pick, Prod.ext_iff, and_assoc] using h) | (obtain ⟨_, _⟩ := a; obtain ⟨_, _⟩ := b; simp [en_spec_l1Cur_pick] at h ⊢; simp_all; done) | (obtain ⟨_, _⟩ := a; obtain ⟨_, _⟩ := b; simp [en_spec_l1Cur_pick] at h; obtain ⟨h1, h2⟩ := h; have h3 := List.append_inj h2.2.2 h1.2.1.1; simp_all)
noncomputable def cl_spec_l1Cur_pick {γ : Type} (ml_0 : Dl1Cur) (n1 : Int) (k : Int × Dl1Cur → Option γ) : Option γ := cl en_spec_l1Cur_pick (call G) 39 [(AV.ptr (Id.l 0) none 0), (I n1)] [(Id.l 0, some ⟨false, false, false, 0, cl1Cur ml_0⟩)] k
theorem ko_spec_l1Cur_pick {γ : Type} (ml_0 : Dl1Cur) (n1 : Int) {Q : Int × Dl1Cur → Prop} (h : ∃ v, A_spec_l1Cur_pick ml_0 n1 = some (en_spec_l1Cur_pick v) ∧ Q v) {k : Int × Dl1Cur → Option γ} {Q' : γ → Prop} (hk : ∀ v, Q v → OK (k v) Q') : OK (cl_spec_l1Cur_pick ml_0 n1 k) Q' := cl_ok inj_spec_l1Cur_pick h hk
noncomputable def A_spec_l1Cur_anyRules (ml_0 : Dl1Cur) : Option R := call G 83 [(AV.ptr (Id.l 0) none 0)] [(Id.l 0, some ⟨false, false, false, 0, cl1Cur ml_0⟩)]
def en_spec_l1Cur_anyRules : DRules × Dl1Cur → R := fun (a : DRules × Dl1Cur) => (AV.agg (cRules a.fst), [(Id.l 0, some { arr := false, fr := false, nest := false, esz := 0, cells := cl1Cur a.snd })])
theorem inj_spec_l1Cur_anyRules : Inj en_spec_l1Cur_anyRules := fun a b h => by
  first | (simpa [en_spec_l1Cur_anyRules, Prod.ext_iff, and_assoc] using h) | (obtain ⟨⟨_, _, _, _, _, _, _⟩, _⟩ := a; obtain ⟨⟨_, _, _, _, _, _, _⟩, _⟩ := b; simp [en_spec_l1Cur_anyRules] at h ⊢; simp_all; done) | (obtain ⟨⟨_, _, _, _, _, _, _⟩, _⟩ := a; obtain ⟨⟨_, _, _, _, _, _, _⟩, _⟩ := b; simp [en_spec_l1Cur_anyRules] at h; obtain ⟨h1, h2⟩ := h; have h3 := List.append_inj h2.2.2 h1.2.1.1; simp_all)
noncomputable def cl_spec_l1Cur_anyRules {γ : Type} (ml_0 : Dl1Cur) (k : DRules × Dl1Cur → Option γ) : Option γ := cl en_spec_l1Cur_anyRules (call G) 83 [(AV.ptr (Id.l 0) none 0)] [(Id.l 0, some ⟨false, false, false, 0, cl1Cur ml_0⟩)] k
theorem ko_spec_l1Cur_anyRules {γ : Type} (ml_0 : Dl1Cur) {Q : DRules × Dl1Cur → Prop} (h : ∃ v, A_spec_l1Cur_anyRules ml_0 = some (en_spec_l1Cur_anyRules v) ∧ Q v) {k : DRules × Dl1Cur → Option γ} {Q' : γ → Prop} (hk : ∀ v, Q v → OK (k v) Q') : OK (cl_spec_l1Cur_anyRules ml_0 k) Q' := cl_ok inj_spec_l1Cur_anyRules h hk
noncomputable def A_spec_l1Cur_anyMap (ml_0 : Dl1Cur) : Option R := call G 84 [(AV.ptr (Id.l 0) none 0)] [(Id.l 0, some ⟨false, false, false, 0, cl1Cur ml_0⟩)]
def en_spec_l1Cur_anyMap : DMap × Dl1Cur → R := fun (a : DMap × Dl1Cur) => (AV.agg (cMap a.fst), [(Id.l 0, some { arr := false, fr := false, nest := false, esz := 0, cells := cl1Cur a.snd })])
theorem inj_spec_l1Cur_anyMap : Inj en_spec_l1Cur_anyMap := fun a b h => by
  first | (simpa [en_spec_l1Cur_anyMap, Prod.ext_iff, and_assoc] using h) | (obtain ⟨⟨_, _, _, _, _⟩, _⟩ := a; obtain ⟨⟨_, _, _, _, _⟩, _⟩ := b; simp [en_spec_l1Cur_anyMap] at h ⊢; simp_all; done) | (obtain ⟨⟨_, _, _, _, _⟩, _⟩ := a; obtain ⟨⟨_, _, _, _, _⟩, _⟩ := b; simp [en_spec_l1Cur_anyMap] at h; obtain ⟨h1, h2⟩ := h; have h3 := List.append_inj h2.2.2 h1.2.1.1; simp_all)
noncomputable def cl_spec_l1Cur_anyMap {γ : Type} (ml_0 : Dl1Cur) (k : DMap × Dl1Cur → Option γ) : Option γ := cl en_spec_l1Cur_anyMap (call G) 84 [(AV.ptr (Id.l 0) none 0)] [(Id.l 0, some ⟨false, false, false, 0, cl1Cur ml_0⟩)] k
theorem ko_spec_l1Cur_anyMap {γ : Type} (ml_0 : Dl1Cur) {Q : DMap × Dl1Cur → Prop} (h : ∃ v, A_spec_l1Cur_anyMap ml_0 = some (en_spec_l1Cur_anyMap v) ∧ Q v) {k : DMap × Dl1Cur → Option γ} {Q' : γ → Prop} (hk : ∀ v, Q v → OK (k v) Q') : OK (cl_spec_l1Cur_anyMap ml_0 k) Q' := cl_ok inj_spec_l1Cur_anyMap h hk
noncomputable def A_impl_IsRules (r0 : DRules) : Option R := call G 51 [(.agg (cRules r0))] []
def en_impl_IsRules : Bool → R := fun (a : Bool) => (B a, [])
theorem inj_impl_IsRules : Inj en_impl_IsRules := fun a b h => by
  first | (simpa [en_impl_IsRules, Prod.ext_iff, and_assoc] using h) | (obtain _ := a; obtain _ := b; simp [en_impl_IsRules] at h ⊢; simp_all; done) | (obtain _ := a; obtain _ := b; simp [en_impl_IsRules] at h; obtain ⟨h1, h2⟩ := h; have h3 := List.append_inj h2.2.2 h1.2.1.1; simp_all)
noncomputable def cl_impl_IsRules {γ : Type} (r0 : DRules) (k : Bool → Option γ) : Option γ := cl en_impl_IsRules (call G) 51 [(.agg (cRules r0))] [] k
theorem k_impl_IsRules {γ : Type} (r0 : DRules) {v : Bool} (h : A_impl_IsRules r0 = some (en_impl_IsRules v)) (k : Bool → Option γ) : cl_impl_IsRules r0 k = k v := cl_eq inj_impl_IsRules h k
noncomputable def A_impl_IsMap (m0 : DMap) : Option R := call G 52 [(.agg (cMap m0))] []
def en_impl_IsMap : Bool → R := fun (a : Bool) => (B a, [])
theorem inj_impl_IsMap : Inj en_impl_IsMap := fun a b h => by
  first | (simpa [en_impl_IsMap, Prod.ext_iff, and_assoc] using h) | (obtain _ := a; obtain _ := b; simp [en_impl_IsMap] at h ⊢; simp_all; done) | (obtain _ := a; obtain _ := b; simp [en_impl_IsMap] at h; obtain ⟨h1, h2⟩ := h; have h3 := List.append_inj h2.2.2 h1.2.1.1; simp_all)
noncomputable def cl_impl_IsMap {γ : Type} (m0 : DMap) (k : Bool → Option γ) : Option γ := cl en_impl_IsMap (call G) 52 [(.agg (cMap m0))] [] k
theorem k_impl_IsMap {γ : Type} (m0 : DMap) {v : Bool} (h : A_impl_IsMap m0 = some (en_impl_IsMap v)) (k : Bool → Option γ) : cl_impl_IsMap m0 k = k v := cl_eq inj_impl_IsMap h k
noncomputable def A_slices_ContainsFunc_int_of_impl_IsBoard_1 (ml_0 : DBoard) (s0 : List Int) : Option R := call G 53 [(slc cI s0), (.clo 54 [(AV.ptr (Id.l 0) none 0)])] [(Id.l 0, some ⟨false, false, false, 0, cBoard ml_0⟩)]
def en_slices_ContainsFunc_int_of_impl_IsBoard_1 : Bool × DBoard → R := fun (a : Bool × DBoard) => (B a.fst, [(Id.l 0, some { arr := false, fr := false, nest := false, esz := 0, cells := cBoard a.snd })])
theorem inj_slices_ContainsFunc_int_of_impl_IsBoard_1 : Inj en_slices_ContainsFunc_int_of_impl_IsBoard_1 := fun a b h => by
  first | (simpa [en_slices_ContainsFunc_int_of_impl_IsBoard_1, Prod.ext_iff, and_assoc] using h) | (obtain ⟨_, ⟨⟨_, _, _, _, _, _, _⟩, ⟨_, _, _, _, _⟩⟩⟩ := a; obtain ⟨_, ⟨⟨_, _, _, _, _, _, _⟩, ⟨_, _, _, _, _⟩⟩⟩ := b; simp [en_slices_ContainsFunc_int_of_impl_IsBoard_1] at h ⊢; simp_all; done) | (obtain ⟨_, ⟨⟨_, _, _, _, _, _, _⟩, ⟨_, _, _, _, _⟩⟩⟩ := a; obtain ⟨_, ⟨⟨_, _, _, _, _, _, _⟩, ⟨_, _, _, _, _⟩⟩⟩ := b; simp [en_slices_ContainsFunc_int_of_impl_IsBoard_1] at h; obtain ⟨h1, h2⟩ := h; have h3 := List.append_inj h2.2.2 h1.2.1.1; simp_all)
noncomputable def cl_slices_ContainsFunc_int_of_impl_IsBoard_1 {γ : Type} (ml_0 : DBoard) (s0 : List Int) (k : Bool × DBoard → Option γ) : Option γ := cl en_slices_ContainsFunc_int_of_impl_IsBoard_1 (call G) 53 [(slc cI s0), (.clo 54 [(AV.ptr (Id.l 0) none 0)])] [(Id.l 0, some ⟨false, false, false, 0, cBoard ml_0⟩)] k
theorem k_slices_ContainsFunc_int_of_impl_IsBoard_1 {γ : Type} (ml_0 : DBoard) (s0 : List Int) {v : Bool × DBoard} (h : A_slices_ContainsFunc_int_of_impl_IsBoard_1 ml_0 s0 = some (en_slices_ContainsFunc_int_of_impl_IsBoard_1 v)) (k : Bool × DBoard → Option γ) : cl_slices_ContainsFunc_int_of_impl_IsBoard_1 ml_0 s0 k = k v := cl_eq inj_slices_ContainsFunc_int_of_impl_IsBoard_1 h k
noncomputable def A_spec_l1Cur_anyState (ml_0 : Dl1Cur) (b1 : DBoard) : Option R := call G 61 [(AV.ptr (Id.l 0) none 0), (.agg (cBoard b1))] [(Id.l 0, some ⟨false, false, false, 0, cl1Cur ml_0⟩)]
def en_spec_l1Cur_anyState : DState × Dl1Cur → R := fun (a : DState × Dl1Cur) => (AV.agg [I a.fst.Turn, I a.fst.Weather, AV.own (Id.r 0 0) none 0 (List.length a.fst.Units) (List.length a.fst.Units)], [(Id.l 0, some { arr := false, fr := false, nest := false, esz := 0, cells := cl1Cur a.snd }), (Id.r 0 0, some (rowB true false 4 cUnit a.fst.Units))])
theorem inj_spec_l1Cur_anyState : Inj en_spec_l1Cur_anyState := fun a b h => by
  first | (simpa [en_spec_l1Cur_anyState, Prod.ext_iff, and_assoc] using h) | (obtain ⟨⟨_, _, _⟩, _⟩ := a; obtain ⟨⟨_, _, _⟩, _⟩ := b; simp [en_spec_l1Cur_anyState] at h ⊢; simp_all; done) | (obtain ⟨⟨_, _, _⟩, _⟩ := a; obtain ⟨⟨_, _, _⟩, _⟩ := b; simp [en_spec_l1Cur_anyState] at h; obtain ⟨h1, h2⟩ := h; have h3 := List.append_inj h2.2.2 h1.2.1.1; simp_all)
noncomputable def cl_spec_l1Cur_anyState {γ : Type} (ml_0 : Dl1Cur) (b1 : DBoard) (k : DState × Dl1Cur → Option γ) : Option γ := cl en_spec_l1Cur_anyState (call G) 61 [(AV.ptr (Id.l 0) none 0), (.agg (cBoard b1))] [(Id.l 0, some ⟨false, false, false, 0, cl1Cur ml_0⟩)] k
theorem ko_spec_l1Cur_anyState {γ : Type} (ml_0 : Dl1Cur) (b1 : DBoard) {Q : DState × Dl1Cur → Prop} (h : ∃ v, A_spec_l1Cur_anyState ml_0 b1 = some (en_spec_l1Cur_anyState v) ∧ Q v) {k : DState × Dl1Cur → Option γ} {Q' : γ → Prop} (hk : ∀ v, Q v → OK (k v) Q') : OK (cl_spec_l1Cur_anyState ml_0 b1 k) Q' := cl_ok inj_spec_l1Cur_anyState h hk
noncomputable def A_spec_mHex (m0 : DMap) (i1 : Int) : Option R := call G 125 [(.agg (cMap m0)), (I i1)] []
def en_spec_mHex : DHex → R := fun (a : DHex) => (AV.agg (cHex a), [])
theorem inj_spec_mHex : Inj en_spec_mHex := fun a b h => by
  first | (simpa [en_spec_mHex, Prod.ext_iff, and_assoc] using h) | (obtain ⟨_, _⟩ := a; obtain ⟨_, _⟩ := b; simp [en_spec_mHex] at h ⊢; simp_all; done) | (obtain ⟨_, _⟩ := a; obtain ⟨_, _⟩ := b; simp [en_spec_mHex] at h; obtain ⟨h1, h2⟩ := h; have h3 := List.append_inj h2.2.2 h1.2.1.1; simp_all)
noncomputable def cl_spec_mHex {γ : Type} (m0 : DMap) (i1 : Int) (k : DHex → Option γ) : Option γ := cl en_spec_mHex (call G) 125 [(.agg (cMap m0)), (I i1)] [] k
theorem k_spec_mHex {γ : Type} (m0 : DMap) (i1 : Int) {v : DHex} (h : A_spec_mHex m0 i1 = some (en_spec_mHex v)) (k : DHex → Option γ) : cl_spec_mHex m0 i1 k = k v := cl_eq inj_spec_mHex h k
noncomputable def A_spec_hStep (h0 : DHex) (d1 : Int) : Option R := call G 124 [(.agg (cHex h0)), (I d1)] []
def en_spec_hStep : DHex → R := fun (a : DHex) => (AV.agg (cHex a), [])
theorem inj_spec_hStep : Inj en_spec_hStep := fun a b h => by
  first | (simpa [en_spec_hStep, Prod.ext_iff, and_assoc] using h) | (obtain ⟨_, _⟩ := a; obtain ⟨_, _⟩ := b; simp [en_spec_hStep] at h ⊢; simp_all; done) | (obtain ⟨_, _⟩ := a; obtain ⟨_, _⟩ := b; simp [en_spec_hStep] at h; obtain ⟨h1, h2⟩ := h; have h3 := List.append_inj h2.2.2 h1.2.1.1; simp_all)
noncomputable def cl_spec_hStep {γ : Type} (h0 : DHex) (d1 : Int) (k : DHex → Option γ) : Option γ := cl en_spec_hStep (call G) 124 [(.agg (cHex h0)), (I d1)] [] k
theorem k_spec_hStep {γ : Type} (h0 : DHex) (d1 : Int) {v : DHex} (h : A_spec_hStep h0 d1 = some (en_spec_hStep v)) (k : DHex → Option γ) : cl_spec_hStep h0 d1 k = k v := cl_eq inj_spec_hStep h k
noncomputable def A_spec_mIndex (m0 : DMap) (h1 : DHex) : Option R := call G 123 [(.agg (cMap m0)), (.agg (cHex h1))] []
def en_spec_mIndex : Int → R := fun (a : Int) => (I a, [])
theorem inj_spec_mIndex : Inj en_spec_mIndex := fun a b h => by
  first | (simpa [en_spec_mIndex, Prod.ext_iff, and_assoc] using h) | (obtain _ := a; obtain _ := b; simp [en_spec_mIndex] at h ⊢; simp_all; done) | (obtain _ := a; obtain _ := b; simp [en_spec_mIndex] at h; obtain ⟨h1, h2⟩ := h; have h3 := List.append_inj h2.2.2 h1.2.1.1; simp_all)
noncomputable def cl_spec_mIndex {γ : Type} (m0 : DMap) (h1 : DHex) (k : Int → Option γ) : Option γ := cl en_spec_mIndex (call G) 123 [(.agg (cMap m0)), (.agg (cHex h1))] [] k
theorem k_spec_mIndex {γ : Type} (m0 : DMap) (h1 : DHex) {v : Int} (h : A_spec_mIndex m0 h1 = some (en_spec_mIndex v)) (k : Int → Option γ) : cl_spec_mIndex m0 h1 k = k v := cl_eq inj_spec_mIndex h k
noncomputable def A_slices_Clone_int (s0 : List Int) : Option R := call G 49 [(slc cI s0)] []
def en_slices_Clone_int : List Int → R := fun (a : List Int) => (AV.own (Id.r 0 0) none 0 (List.length a) (List.length a), [(Id.r 0 0, some (rowB true false 1 cI a))])
theorem inj_slices_Clone_int : Inj en_slices_Clone_int := fun a b h => by
  first | (simpa [en_slices_Clone_int, Prod.ext_iff, and_assoc] using h) | (obtain _ := a; obtain _ := b; simp [en_slices_Clone_int] at h ⊢; simp_all; done) | (obtain _ := a; obtain _ := b; simp [en_slices_Clone_int] at h; obtain ⟨h1, h2⟩ := h; have h3 := List.append_inj h2.2.2 h1.2.1.1; simp_all)
noncomputable def cl_slices_Clone_int {γ : Type} (s0 : List Int) (k : List Int → Option γ) : Option γ := cl en_slices_Clone_int (call G) 49 [(slc cI s0)] [] k
theorem k_slices_Clone_int {γ : Type} (s0 : List Int) {v : List Int} (h : A_slices_Clone_int s0 = some (en_slices_Clone_int v)) (k : List Int → Option γ) : cl_slices_Clone_int s0 k = k v := cl_eq inj_slices_Clone_int h k
noncomputable def A_spec_rName (s0 : ByteArray) : Option R := call G 105 [(S s0)] []
def en_spec_rName : Bool → R := fun (a : Bool) => (B a, [])
theorem inj_spec_rName : Inj en_spec_rName := fun a b h => by
  first | (simpa [en_spec_rName, Prod.ext_iff, and_assoc] using h) | (obtain _ := a; obtain _ := b; simp [en_spec_rName] at h ⊢; simp_all; done) | (obtain _ := a; obtain _ := b; simp [en_spec_rName] at h; obtain ⟨h1, h2⟩ := h; have h3 := List.append_inj h2.2.2 h1.2.1.1; simp_all)
noncomputable def cl_spec_rName {γ : Type} (s0 : ByteArray) (k : Bool → Option γ) : Option γ := cl en_spec_rName (call G) 105 [(S s0)] [] k
theorem k_spec_rName {γ : Type} (s0 : ByteArray) {v : Bool} (h : A_spec_rName s0 = some (en_spec_rName v)) (k : Bool → Option γ) : cl_spec_rName s0 k = k v := cl_eq inj_spec_rName h k
noncomputable def A_spec_rTerrain (l0 : List DTerrain) (name1 : ByteArray) : Option R := call G 106 [(slc cTerrain l0), (S name1)] []
def en_spec_rTerrain : Int → R := fun (a : Int) => (I a, [])
theorem inj_spec_rTerrain : Inj en_spec_rTerrain := fun a b h => by
  first | (simpa [en_spec_rTerrain, Prod.ext_iff, and_assoc] using h) | (obtain _ := a; obtain _ := b; simp [en_spec_rTerrain] at h ⊢; simp_all; done) | (obtain _ := a; obtain _ := b; simp [en_spec_rTerrain] at h; obtain ⟨h1, h2⟩ := h; have h3 := List.append_inj h2.2.2 h1.2.1.1; simp_all)
noncomputable def cl_spec_rTerrain {γ : Type} (l0 : List DTerrain) (name1 : ByteArray) (k : Int → Option γ) : Option γ := cl en_spec_rTerrain (call G) 106 [(slc cTerrain l0), (S name1)] [] k
theorem k_spec_rTerrain {γ : Type} (l0 : List DTerrain) (name1 : ByteArray) {v : Int} (h : A_spec_rTerrain l0 name1 = some (en_spec_rTerrain v)) (k : Int → Option γ) : cl_spec_rTerrain l0 name1 k = k v := cl_eq inj_spec_rTerrain h k
noncomputable def A_spec_zExerts (b0 : DBoard) (s1 : DState) (u2 : Int) (i3 : Int) : Option R := call G 111 [(.agg (cBoard b0)), (.agg (cState s1)), (I u2), (I i3)] []
def en_spec_zExerts : Bool → R := fun (a : Bool) => (B a, [])
theorem inj_spec_zExerts : Inj en_spec_zExerts := fun a b h => by
  first | (simpa [en_spec_zExerts, Prod.ext_iff, and_assoc] using h) | (obtain _ := a; obtain _ := b; simp [en_spec_zExerts] at h ⊢; simp_all; done) | (obtain _ := a; obtain _ := b; simp [en_spec_zExerts] at h; obtain ⟨h1, h2⟩ := h; have h3 := List.append_inj h2.2.2 h1.2.1.1; simp_all)
noncomputable def cl_spec_zExerts {γ : Type} (b0 : DBoard) (s1 : DState) (u2 : Int) (i3 : Int) (k : Bool → Option γ) : Option γ := cl en_spec_zExerts (call G) 111 [(.agg (cBoard b0)), (.agg (cState s1)), (I u2), (I i3)] [] k
theorem k_spec_zExerts {γ : Type} (b0 : DBoard) (s1 : DState) (u2 : Int) (i3 : Int) {v : Bool} (h : A_spec_zExerts b0 s1 u2 i3 = some (en_spec_zExerts v)) (k : Bool → Option γ) : cl_spec_zExerts b0 s1 u2 i3 k = k v := cl_eq inj_spec_zExerts h k
noncomputable def A_slices_IndexFunc_int_of_impl_IsBoard_1 (ml_0 : DBoard) (s0 : List Int) : Option R := call G 81 [(slc cI s0), (.clo 54 [(AV.ptr (Id.l 0) none 0)])] [(Id.l 0, some ⟨false, false, false, 0, cBoard ml_0⟩)]
def en_slices_IndexFunc_int_of_impl_IsBoard_1 : Int × DBoard → R := fun (a : Int × DBoard) => (I a.fst, [(Id.l 0, some { arr := false, fr := false, nest := false, esz := 0, cells := cBoard a.snd })])
theorem inj_slices_IndexFunc_int_of_impl_IsBoard_1 : Inj en_slices_IndexFunc_int_of_impl_IsBoard_1 := fun a b h => by
  first | (simpa [en_slices_IndexFunc_int_of_impl_IsBoard_1, Prod.ext_iff, and_assoc] using h) | (obtain ⟨_, ⟨⟨_, _, _, _, _, _, _⟩, ⟨_, _, _, _, _⟩⟩⟩ := a; obtain ⟨_, ⟨⟨_, _, _, _, _, _, _⟩, ⟨_, _, _, _, _⟩⟩⟩ := b; simp [en_slices_IndexFunc_int_of_impl_IsBoard_1] at h ⊢; simp_all; done) | (obtain ⟨_, ⟨⟨_, _, _, _, _, _, _⟩, ⟨_, _, _, _, _⟩⟩⟩ := a; obtain ⟨_, ⟨⟨_, _, _, _, _, _, _⟩, ⟨_, _, _, _, _⟩⟩⟩ := b; simp [en_slices_IndexFunc_int_of_impl_IsBoard_1] at h; obtain ⟨h1, h2⟩ := h; have h3 := List.append_inj h2.2.2 h1.2.1.1; simp_all)
noncomputable def cl_slices_IndexFunc_int_of_impl_IsBoard_1 {γ : Type} (ml_0 : DBoard) (s0 : List Int) (k : Int × DBoard → Option γ) : Option γ := cl en_slices_IndexFunc_int_of_impl_IsBoard_1 (call G) 81 [(slc cI s0), (.clo 54 [(AV.ptr (Id.l 0) none 0)])] [(Id.l 0, some ⟨false, false, false, 0, cBoard ml_0⟩)] k
theorem k_slices_IndexFunc_int_of_impl_IsBoard_1 {γ : Type} (ml_0 : DBoard) (s0 : List Int) {v : Int × DBoard} (h : A_slices_IndexFunc_int_of_impl_IsBoard_1 ml_0 s0 = some (en_slices_IndexFunc_int_of_impl_IsBoard_1 v)) (k : Int × DBoard → Option γ) : cl_slices_IndexFunc_int_of_impl_IsBoard_1 ml_0 s0 k = k v := cl_eq inj_slices_IndexFunc_int_of_impl_IsBoard_1 h k
noncomputable def A_spec_rKind (l0 : List DKind) (name1 : ByteArray) : Option R := call G 107 [(slc cKind l0), (S name1)] []
def en_spec_rKind : Int → R := fun (a : Int) => (I a, [])
theorem inj_spec_rKind : Inj en_spec_rKind := fun a b h => by
  first | (simpa [en_spec_rKind, Prod.ext_iff, and_assoc] using h) | (obtain _ := a; obtain _ := b; simp [en_spec_rKind] at h ⊢; simp_all; done) | (obtain _ := a; obtain _ := b; simp [en_spec_rKind] at h; obtain ⟨h1, h2⟩ := h; have h3 := List.append_inj h2.2.2 h1.2.1.1; simp_all)
noncomputable def cl_spec_rKind {γ : Type} (l0 : List DKind) (name1 : ByteArray) (k : Int → Option γ) : Option γ := cl en_spec_rKind (call G) 107 [(slc cKind l0), (S name1)] [] k
theorem k_spec_rKind {γ : Type} (l0 : List DKind) (name1 : ByteArray) {v : Int} (h : A_spec_rKind l0 name1 = some (en_spec_rKind v)) (k : Int → Option γ) : cl_spec_rKind l0 name1 k = k v := cl_eq inj_spec_rKind h k
noncomputable def A_impl_IsBoard_1 (ml_0 : DBoard) (t0 : Int) : Option R := call G 54 [(I t0), (AV.ptr (Id.l 0) none 0)] [(Id.l 0, some ⟨false, false, false, 0, cBoard ml_0⟩)]
def en_impl_IsBoard_1 : Bool × DBoard → R := fun (a : Bool × DBoard) => (B a.fst, [(Id.l 0, some { arr := false, fr := false, nest := false, esz := 0, cells := cBoard a.snd })])
theorem inj_impl_IsBoard_1 : Inj en_impl_IsBoard_1 := fun a b h => by
  first | (simpa [en_impl_IsBoard_1, Prod.ext_iff, and_assoc] using h) | (obtain ⟨_, ⟨⟨_, _, _, _, _, _, _⟩, ⟨_, _, _, _, _⟩⟩⟩ := a; obtain ⟨_, ⟨⟨_, _, _, _, _, _, _⟩, ⟨_, _, _, _, _⟩⟩⟩ := b; simp [en_impl_IsBoard_1] at h ⊢; simp_all; done) | (obtain ⟨_, ⟨⟨_, _, _, _, _, _, _⟩, ⟨_, _, _, _, _⟩⟩⟩ := a; obtain ⟨_, ⟨⟨_, _, _, _, _, _, _⟩, ⟨_, _, _, _, _⟩⟩⟩ := b; simp [en_impl_IsBoard_1] at h; obtain ⟨h1, h2⟩ := h; have h3 := List.append_inj h2.2.2 h1.2.1.1; simp_all)
noncomputable def cl_impl_IsBoard_1 {γ : Type} (ml_0 : DBoard) (t0 : Int) (k : Bool × DBoard → Option γ) : Option γ := cl en_impl_IsBoard_1 (call G) 54 [(I t0), (AV.ptr (Id.l 0) none 0)] [(Id.l 0, some ⟨false, false, false, 0, cBoard ml_0⟩)] k
theorem k_impl_IsBoard_1 {γ : Type} (ml_0 : DBoard) (t0 : Int) {v : Bool × DBoard} (h : A_impl_IsBoard_1 ml_0 t0 = some (en_impl_IsBoard_1 v)) (k : Bool × DBoard → Option γ) : cl_impl_IsBoard_1 ml_0 t0 k = k v := cl_eq inj_impl_IsBoard_1 h k
noncomputable def A_spec_l1Cur_rules (ml_0 : Dl1Cur) : Option R := call G 102 [(AV.ptr (Id.l 0) none 0)] [(Id.l 0, some ⟨false, false, false, 0, cl1Cur ml_0⟩)]
def en_spec_l1Cur_rules : (DRules × List DKind) × Dl1Cur → R := fun (a : (DRules × List DKind) × Dl1Cur) => (AV.agg [AV.own (Id.r 0 0) none 0 (List.length a.fst.fst.Terrains) (List.length a.fst.fst.Terrains), AV.own (Id.r 0 1) none 0 (List.length a.fst.fst.Kinds) (List.length a.fst.fst.Kinds + List.length a.fst.snd), I a.fst.fst.Stack, I a.fst.fst.River, I a.fst.fst.Road, I a.fst.fst.Supply, I a.fst.fst.Turns], [(Id.l 0, some { arr := false, fr := false, nest := false, esz := 0, cells := cl1Cur a.snd }), (Id.r 0 0, some (rowB true true 5 cTerrainN a.fst.fst.Terrains)), (Id.r 0 1, some (rowB true false 6 cKind (a.fst.fst.Kinds ++ a.fst.snd)))])
theorem inj_spec_l1Cur_rules : Inj en_spec_l1Cur_rules := fun a b h => by
  first | (simpa [en_spec_l1Cur_rules, Prod.ext_iff, and_assoc] using h) | (obtain ⟨⟨⟨_, _, _, _, _, _, _⟩, _⟩, _⟩ := a; obtain ⟨⟨⟨_, _, _, _, _, _, _⟩, _⟩, _⟩ := b; simp [en_spec_l1Cur_rules] at h ⊢; simp_all; done) | (obtain ⟨⟨⟨_, _, _, _, _, _, _⟩, _⟩, _⟩ := a; obtain ⟨⟨⟨_, _, _, _, _, _, _⟩, _⟩, _⟩ := b; simp [en_spec_l1Cur_rules] at h; obtain ⟨h1, h2⟩ := h; have h3 := List.append_inj h2.2.2 h1.2.1.1; simp_all)
noncomputable def cl_spec_l1Cur_rules {γ : Type} (ml_0 : Dl1Cur) (k : (DRules × List DKind) × Dl1Cur → Option γ) : Option γ := cl en_spec_l1Cur_rules (call G) 102 [(AV.ptr (Id.l 0) none 0)] [(Id.l 0, some ⟨false, false, false, 0, cl1Cur ml_0⟩)] k
theorem ko_spec_l1Cur_rules {γ : Type} (ml_0 : Dl1Cur) {Q : (DRules × List DKind) × Dl1Cur → Prop} (h : ∃ v, A_spec_l1Cur_rules ml_0 = some (en_spec_l1Cur_rules v) ∧ Q v) {k : (DRules × List DKind) × Dl1Cur → Option γ} {Q' : γ → Prop} (hk : ∀ v, Q v → OK (k v) Q') : OK (cl_spec_l1Cur_rules ml_0 k) Q' := cl_ok inj_spec_l1Cur_rules h hk
noncomputable def A_spec_l1Cur_next (ml_0 : Dl1Cur) : Option R := call G 64 [(AV.ptr (Id.l 0) none 0)] [(Id.l 0, some ⟨false, false, false, 0, cl1Cur ml_0⟩)]
noncomputable def A_impl_controls (b0 : DBoard) (u1 : DUnit) (i2 : Int) : Option R := call G 92 [(.agg (cBoard b0)), (.agg (cUnit u1)), (I i2)] []
def en_impl_controls : Bool → R := fun (a : Bool) => (B a, [])
theorem inj_impl_controls : Inj en_impl_controls := fun a b h => by
  first | (simpa [en_impl_controls, Prod.ext_iff, and_assoc] using h) | (obtain _ := a; obtain _ := b; simp [en_impl_controls] at h ⊢; simp_all; done) | (obtain _ := a; obtain _ := b; simp [en_impl_controls] at h; obtain ⟨h1, h2⟩ := h; have h3 := List.append_inj h2.2.2 h1.2.1.1; simp_all)
noncomputable def cl_impl_controls {γ : Type} (b0 : DBoard) (u1 : DUnit) (i2 : Int) (k : Bool → Option γ) : Option γ := cl en_impl_controls (call G) 92 [(.agg (cBoard b0)), (.agg (cUnit u1)), (I i2)] [] k
theorem k_impl_controls {γ : Type} (b0 : DBoard) (u1 : DUnit) (i2 : Int) {v : Bool} (h : A_impl_controls b0 u1 i2 = some (en_impl_controls v)) (k : Bool → Option γ) : cl_impl_controls b0 u1 i2 k = k v := cl_eq inj_impl_controls h k
noncomputable def A_impl_goodTerrain (t0 : DTerrain) (kinds1 : Int) : Option R := call G 75 [(.agg (cTerrain t0)), (I kinds1)] []
def en_impl_goodTerrain : Bool → R := fun (a : Bool) => (B a, [])
theorem inj_impl_goodTerrain : Inj en_impl_goodTerrain := fun a b h => by
  first | (simpa [en_impl_goodTerrain, Prod.ext_iff, and_assoc] using h) | (obtain _ := a; obtain _ := b; simp [en_impl_goodTerrain] at h ⊢; simp_all; done) | (obtain _ := a; obtain _ := b; simp [en_impl_goodTerrain] at h; obtain ⟨h1, h2⟩ := h; have h3 := List.append_inj h2.2.2 h1.2.1.1; simp_all)
noncomputable def cl_impl_goodTerrain {γ : Type} (t0 : DTerrain) (kinds1 : Int) (k : Bool → Option γ) : Option γ := cl en_impl_goodTerrain (call G) 75 [(.agg (cTerrain t0)), (I kinds1)] [] k
theorem k_impl_goodTerrain {γ : Type} (t0 : DTerrain) (kinds1 : Int) {v : Bool} (h : A_impl_goodTerrain t0 kinds1 = some (en_impl_goodTerrain v)) (k : Bool → Option γ) : cl_impl_goodTerrain t0 kinds1 k = k v := cl_eq inj_impl_goodTerrain h k
noncomputable def A_impl_inZone (b0 : DBoard) (s1 : DState) (side2 : Int) (i3 : Int) : Option R := call G 67 [(.agg (cBoard b0)), (.agg (cState s1)), (I side2), (I i3)] []
def en_impl_inZone : Bool → R := fun (a : Bool) => (B a, [])
theorem inj_impl_inZone : Inj en_impl_inZone := fun a b h => by
  first | (simpa [en_impl_inZone, Prod.ext_iff, and_assoc] using h) | (obtain _ := a; obtain _ := b; simp [en_impl_inZone] at h ⊢; simp_all; done) | (obtain _ := a; obtain _ := b; simp [en_impl_inZone] at h; obtain ⟨h1, h2⟩ := h; have h3 := List.append_inj h2.2.2 h1.2.1.1; simp_all)
noncomputable def cl_impl_inZone {γ : Type} (b0 : DBoard) (s1 : DState) (side2 : Int) (i3 : Int) (k : Bool → Option γ) : Option γ := cl en_impl_inZone (call G) 67 [(.agg (cBoard b0)), (.agg (cState s1)), (I side2), (I i3)] [] k
theorem k_impl_inZone {γ : Type} (b0 : DBoard) (s1 : DState) (side2 : Int) (i3 : Int) {v : Bool} (h : A_impl_inZone b0 s1 side2 i3 = some (en_impl_inZone v)) (k : Bool → Option γ) : cl_impl_inZone b0 s1 side2 i3 k = k v := cl_eq inj_impl_inZone h k
noncomputable def A_impl_ownerOf (s0 : DState) (i1 : Int) : Option R := call G 90 [(.agg (cState s0)), (I i1)] []
def en_impl_ownerOf : Int → R := fun (a : Int) => (I a, [])
theorem inj_impl_ownerOf : Inj en_impl_ownerOf := fun a b h => by
  first | (simpa [en_impl_ownerOf, Prod.ext_iff, and_assoc] using h) | (obtain _ := a; obtain _ := b; simp [en_impl_ownerOf] at h ⊢; simp_all; done) | (obtain _ := a; obtain _ := b; simp [en_impl_ownerOf] at h; obtain ⟨h1, h2⟩ := h; have h3 := List.append_inj h2.2.2 h1.2.1.1; simp_all)
noncomputable def cl_impl_ownerOf {γ : Type} (s0 : DState) (i1 : Int) (k : Int → Option γ) : Option γ := cl en_impl_ownerOf (call G) 90 [(.agg (cState s0)), (I i1)] [] k
theorem k_impl_ownerOf {γ : Type} (s0 : DState) (i1 : Int) {v : Int} (h : A_impl_ownerOf s0 i1 = some (en_impl_ownerOf v)) (k : Int → Option γ) : cl_impl_ownerOf s0 i1 k = k v := cl_eq inj_impl_ownerOf h k
noncomputable def A_impl_stepBy (h0 : DHex) (d1 : Int) (n2 : Int) : Option R := call G 113 [(.agg (cHex h0)), (I d1), (I n2)] []
def en_impl_stepBy : DHex → R := fun (a : DHex) => (AV.agg (cHex a), [])
theorem inj_impl_stepBy : Inj en_impl_stepBy := fun a b h => by
  first | (simpa [en_impl_stepBy, Prod.ext_iff, and_assoc] using h) | (obtain ⟨_, _⟩ := a; obtain ⟨_, _⟩ := b; simp [en_impl_stepBy] at h ⊢; simp_all; done) | (obtain ⟨_, _⟩ := a; obtain ⟨_, _⟩ := b; simp [en_impl_stepBy] at h; obtain ⟨h1, h2⟩ := h; have h3 := List.append_inj h2.2.2 h1.2.1.1; simp_all)
noncomputable def cl_impl_stepBy {γ : Type} (h0 : DHex) (d1 : Int) (n2 : Int) (k : DHex → Option γ) : Option γ := cl en_impl_stepBy (call G) 113 [(.agg (cHex h0)), (I d1), (I n2)] [] k
theorem k_impl_stepBy {γ : Type} (h0 : DHex) (d1 : Int) (n2 : Int) {v : DHex} (h : A_impl_stepBy h0 d1 n2 = some (en_impl_stepBy v)) (k : DHex → Option γ) : cl_impl_stepBy h0 d1 n2 k = k v := cl_eq inj_impl_stepBy h k
noncomputable def A_impl_kindPrice (b0 : DBoard) (kind1 : Int) : Option R := call G 35 [(.agg (cBoard b0)), (I kind1)] []
def en_impl_kindPrice : Int → R := fun (a : Int) => (I a, [])
theorem inj_impl_kindPrice : Inj en_impl_kindPrice := fun a b h => by
  first | (simpa [en_impl_kindPrice, Prod.ext_iff, and_assoc] using h) | (obtain _ := a; obtain _ := b; simp [en_impl_kindPrice] at h ⊢; simp_all; done) | (obtain _ := a; obtain _ := b; simp [en_impl_kindPrice] at h; obtain ⟨h1, h2⟩ := h; have h3 := List.append_inj h2.2.2 h1.2.1.1; simp_all)
noncomputable def cl_impl_kindPrice {γ : Type} (b0 : DBoard) (kind1 : Int) (k : Int → Option γ) : Option γ := cl en_impl_kindPrice (call G) 35 [(.agg (cBoard b0)), (I kind1)] [] k
theorem k_impl_kindPrice {γ : Type} (b0 : DBoard) (kind1 : Int) {v : Int} (h : A_impl_kindPrice b0 kind1 = some (en_impl_kindPrice v)) (k : Int → Option γ) : cl_impl_kindPrice b0 kind1 k = k v := cl_eq inj_impl_kindPrice h k
noncomputable def A_impl_crossesFreely (m0 : DMap) (edge1 : Int) : Option R := call G 109 [(.agg (cMap m0)), (I edge1)] []
def en_impl_crossesFreely : Bool → R := fun (a : Bool) => (B a, [])
theorem inj_impl_crossesFreely : Inj en_impl_crossesFreely := fun a b h => by
  first | (simpa [en_impl_crossesFreely, Prod.ext_iff, and_assoc] using h) | (obtain _ := a; obtain _ := b; simp [en_impl_crossesFreely] at h ⊢; simp_all; done) | (obtain _ := a; obtain _ := b; simp [en_impl_crossesFreely] at h; obtain ⟨h1, h2⟩ := h; have h3 := List.append_inj h2.2.2 h1.2.1.1; simp_all)
noncomputable def cl_impl_crossesFreely {γ : Type} (m0 : DMap) (edge1 : Int) (k : Bool → Option γ) : Option γ := cl en_impl_crossesFreely (call G) 109 [(.agg (cMap m0)), (I edge1)] [] k
theorem k_impl_crossesFreely {γ : Type} (m0 : DMap) (edge1 : Int) {v : Bool} (h : A_impl_crossesFreely m0 edge1 = some (en_impl_crossesFreely v)) (k : Bool → Option γ) : cl_impl_crossesFreely m0 edge1 k = k v := cl_eq inj_impl_crossesFreely h k
noncomputable def A_spec_mRoad (m0 : DMap) (i1 : Int) (d2 : Int) : Option R := call G 120 [(.agg (cMap m0)), (I i1), (I d2)] []
def en_spec_mRoad : Bool → R := fun (a : Bool) => (B a, [])
theorem inj_spec_mRoad : Inj en_spec_mRoad := fun a b h => by
  first | (simpa [en_spec_mRoad, Prod.ext_iff, and_assoc] using h) | (obtain _ := a; obtain _ := b; simp [en_spec_mRoad] at h ⊢; simp_all; done) | (obtain _ := a; obtain _ := b; simp [en_spec_mRoad] at h; obtain ⟨h1, h2⟩ := h; have h3 := List.append_inj h2.2.2 h1.2.1.1; simp_all)
noncomputable def cl_spec_mRoad {γ : Type} (m0 : DMap) (i1 : Int) (d2 : Int) (k : Bool → Option γ) : Option γ := cl en_spec_mRoad (call G) 120 [(.agg (cMap m0)), (I i1), (I d2)] [] k
theorem k_spec_mRoad {γ : Type} (m0 : DMap) (i1 : Int) (d2 : Int) {v : Bool} (h : A_spec_mRoad m0 i1 d2 = some (en_spec_mRoad v)) (k : Bool → Option γ) : cl_spec_mRoad m0 i1 d2 k = k v := cl_eq inj_spec_mRoad h k
noncomputable def A_spec_l1Most (a0 : Int) (b1 : Int) : Option R := call G 88 [(I a0), (I b1)] []
def en_spec_l1Most : Int → R := fun (a : Int) => (I a, [])
theorem inj_spec_l1Most : Inj en_spec_l1Most := fun a b h => by
  first | (simpa [en_spec_l1Most, Prod.ext_iff, and_assoc] using h) | (obtain _ := a; obtain _ := b; simp [en_spec_l1Most] at h ⊢; simp_all; done) | (obtain _ := a; obtain _ := b; simp [en_spec_l1Most] at h; obtain ⟨h1, h2⟩ := h; have h3 := List.append_inj h2.2.2 h1.2.1.1; simp_all)
noncomputable def cl_spec_l1Most {γ : Type} (a0 : Int) (b1 : Int) (k : Int → Option γ) : Option γ := cl en_spec_l1Most (call G) 88 [(I a0), (I b1)] [] k
theorem k_spec_l1Most {γ : Type} (a0 : Int) (b1 : Int) {v : Int} (h : A_spec_l1Most a0 b1 = some (en_spec_l1Most v)) (k : Int → Option γ) : cl_spec_l1Most a0 b1 k = k v := cl_eq inj_spec_l1Most h k
noncomputable def A_impl_isSide (side0 : Int) : Option R := call G 57 [(I side0)] []
def en_impl_isSide : Bool → R := fun (a : Bool) => (B a, [])
theorem inj_impl_isSide : Inj en_impl_isSide := fun a b h => by
  first | (simpa [en_impl_isSide, Prod.ext_iff, and_assoc] using h) | (obtain _ := a; obtain _ := b; simp [en_impl_isSide] at h ⊢; simp_all; done) | (obtain _ := a; obtain _ := b; simp [en_impl_isSide] at h; obtain ⟨h1, h2⟩ := h; have h3 := List.append_inj h2.2.2 h1.2.1.1; simp_all)
noncomputable def cl_impl_isSide {γ : Type} (side0 : Int) (k : Bool → Option γ) : Option γ := cl en_impl_isSide (call G) 57 [(I side0)] [] k
theorem k_impl_isSide {γ : Type} (side0 : Int) {v : Bool} (h : A_impl_isSide side0 = some (en_impl_isSide v)) (k : Bool → Option γ) : cl_impl_isSide side0 k = k v := cl_eq inj_impl_isSide h k
noncomputable def A_spec_l1Cur_one (ml_0 : Dl1Cur) (n1 : Int) : Option R := call G 38 [(AV.ptr (Id.l 0) none 0), (I n1)] [(Id.l 0, some ⟨false, false, false, 0, cl1Cur ml_0⟩)]
def en_spec_l1Cur_one : Bool × Dl1Cur → R := fun (a : Bool × Dl1Cur) => (B a.fst, [(Id.l 0, some { arr := false, fr := false, nest := false, esz := 0, cells := cl1Cur a.snd })])
theorem inj_spec_l1Cur_one : Inj en_spec_l1Cur_one := fun a b h => by
  first | (simpa [en_spec_l1Cur_one, Prod.ext_iff, and_assoc] using h) | (obtain ⟨_, _⟩ := a; obtain ⟨_, _⟩ := b; simp [en_spec_l1Cur_one] at h ⊢; simp_all; done) | (obtain ⟨_, _⟩ := a; obtain ⟨_, _⟩ := b; simp [en_spec_l1Cur_one] at h; obtain ⟨h1, h2⟩ := h; have h3 := List.append_inj h2.2.2 h1.2.1.1; simp_all)
noncomputable def cl_spec_l1Cur_one {γ : Type} (ml_0 : Dl1Cur) (n1 : Int) (k : Bool × Dl1Cur → Option γ) : Option γ := cl en_spec_l1Cur_one (call G) 38 [(AV.ptr (Id.l 0) none 0), (I n1)] [(Id.l 0, some ⟨false, false, false, 0, cl1Cur ml_0⟩)] k
theorem ko_spec_l1Cur_one {γ : Type} (ml_0 : Dl1Cur) (n1 : Int) {Q : Bool × Dl1Cur → Prop} (h : ∃ v, A_spec_l1Cur_one ml_0 n1 = some (en_spec_l1Cur_one v) ∧ Q v) {k : Bool × Dl1Cur → Option γ} {Q' : γ → Prop} (hk : ∀ v, Q v → OK (k v) Q') : OK (cl_spec_l1Cur_one ml_0 n1 k) Q' := cl_ok inj_spec_l1Cur_one h hk
noncomputable def A_impl_cloneState (s0 : DState) : Option R := call G 26 [(.agg (cState s0))] []
def en_impl_cloneState : DState → R := fun (a : DState) => (AV.agg [I a.Turn, I a.Weather, AV.own (Id.r 0 0) none 0 (List.length a.Units) (List.length a.Units)], [(Id.r 0 0, some (rowB true false 4 cUnit a.Units))])
theorem inj_impl_cloneState : Inj en_impl_cloneState := fun a b h => by
  first | (simpa [en_impl_cloneState, Prod.ext_iff, and_assoc] using h) | (obtain ⟨_, _, _⟩ := a; obtain ⟨_, _, _⟩ := b; simp [en_impl_cloneState] at h ⊢; simp_all; done) | (obtain ⟨_, _, _⟩ := a; obtain ⟨_, _, _⟩ := b; simp [en_impl_cloneState] at h; obtain ⟨h1, h2⟩ := h; have h3 := List.append_inj h2.2.2 h1.2.1.1; simp_all)
noncomputable def cl_impl_cloneState {γ : Type} (s0 : DState) (k : DState → Option γ) : Option γ := cl en_impl_cloneState (call G) 26 [(.agg (cState s0))] [] k
theorem k_impl_cloneState {γ : Type} (s0 : DState) {v : DState} (h : A_impl_cloneState s0 = some (en_impl_cloneState v)) (k : DState → Option γ) : cl_impl_cloneState s0 k = k v := cl_eq inj_impl_cloneState h k
noncomputable def A_impl_enterCost (b0 : DBoard) (kind1 : Int) (i2 : Int) : Option R := call G 65 [(.agg (cBoard b0)), (I kind1), (I i2)] []
def en_impl_enterCost : Int → R := fun (a : Int) => (I a, [])
theorem inj_impl_enterCost : Inj en_impl_enterCost := fun a b h => by
  first | (simpa [en_impl_enterCost, Prod.ext_iff, and_assoc] using h) | (obtain _ := a; obtain _ := b; simp [en_impl_enterCost] at h ⊢; simp_all; done) | (obtain _ := a; obtain _ := b; simp [en_impl_enterCost] at h; obtain ⟨h1, h2⟩ := h; have h3 := List.append_inj h2.2.2 h1.2.1.1; simp_all)
noncomputable def cl_impl_enterCost {γ : Type} (b0 : DBoard) (kind1 : Int) (i2 : Int) (k : Int → Option γ) : Option γ := cl en_impl_enterCost (call G) 65 [(.agg (cBoard b0)), (I kind1), (I i2)] [] k
theorem k_impl_enterCost {γ : Type} (b0 : DBoard) (kind1 : Int) (i2 : Int) {v : Int} (h : A_impl_enterCost b0 kind1 i2 = some (en_impl_enterCost v)) (k : Int → Option γ) : cl_impl_enterCost b0 kind1 i2 k = k v := cl_eq inj_impl_enterCost h k
noncomputable def A_spec_l1Cur_among (ml_0 : Dl1Cur) (list1 : List Int) : Option R := call G 24 [(AV.ptr (Id.l 0) none 0), (slc cI list1)] [(Id.l 0, some ⟨false, false, false, 0, cl1Cur ml_0⟩)]
def en_spec_l1Cur_among : Int × Dl1Cur → R := fun (a : Int × Dl1Cur) => (I a.fst, [(Id.l 0, some { arr := false, fr := false, nest := false, esz := 0, cells := cl1Cur a.snd })])
theorem inj_spec_l1Cur_among : Inj en_spec_l1Cur_among := fun a b h => by
  first | (simpa [en_spec_l1Cur_among, Prod.ext_iff, and_assoc] using h) | (obtain ⟨_, _⟩ := a; obtain ⟨_, _⟩ := b; simp [en_spec_l1Cur_among] at h ⊢; simp_all; done) | (obtain ⟨_, _⟩ := a; obtain ⟨_, _⟩ := b; simp [en_spec_l1Cur_among] at h; obtain ⟨h1, h2⟩ := h; have h3 := List.append_inj h2.2.2 h1.2.1.1; simp_all)
noncomputable def cl_spec_l1Cur_among {γ : Type} (ml_0 : Dl1Cur) (list1 : List Int) (k : Int × Dl1Cur → Option γ) : Option γ := cl en_spec_l1Cur_among (call G) 24 [(AV.ptr (Id.l 0) none 0), (slc cI list1)] [(Id.l 0, some ⟨false, false, false, 0, cl1Cur ml_0⟩)] k
theorem ko_spec_l1Cur_among {γ : Type} (ml_0 : Dl1Cur) (list1 : List Int) {Q : Int × Dl1Cur → Prop} (h : ∃ v, A_spec_l1Cur_among ml_0 list1 = some (en_spec_l1Cur_among v) ∧ Q v) {k : Int × Dl1Cur → Option γ} {Q' : γ → Prop} (hk : ∀ v, Q v → OK (k v) Q') : OK (cl_spec_l1Cur_among ml_0 list1 k) Q' := cl_ok inj_spec_l1Cur_among h hk
noncomputable def A_slices_ContainsFunc_int_of_impl_goodTerrain_1 (s0 : List Int) : Option R := call G 53 [(slc cI s0), (.clo 96 [])] []
def en_slices_ContainsFunc_int_of_impl_goodTerrain_1 : Bool → R := fun (a : Bool) => (B a, [])
theorem inj_slices_ContainsFunc_int_of_impl_goodTerrain_1 : Inj en_slices_ContainsFunc_int_of_impl_goodTerrain_1 := fun a b h => by
  first | (simpa [en_slices_ContainsFunc_int_of_impl_goodTerrain_1, Prod.ext_iff, and_assoc] using h) | (obtain _ := a; obtain _ := b; simp [en_slices_ContainsFunc_int_of_impl_goodTerrain_1] at h ⊢; simp_all; done) | (obtain _ := a; obtain _ := b; simp [en_slices_ContainsFunc_int_of_impl_goodTerrain_1] at h; obtain ⟨h1, h2⟩ := h; have h3 := List.append_inj h2.2.2 h1.2.1.1; simp_all)
noncomputable def cl_slices_ContainsFunc_int_of_impl_goodTerrain_1 {γ : Type} (s0 : List Int) (k : Bool → Option γ) : Option γ := cl en_slices_ContainsFunc_int_of_impl_goodTerrain_1 (call G) 53 [(slc cI s0), (.clo 96 [])] [] k
theorem k_slices_ContainsFunc_int_of_impl_goodTerrain_1 {γ : Type} (s0 : List Int) {v : Bool} (h : A_slices_ContainsFunc_int_of_impl_goodTerrain_1 s0 = some (en_slices_ContainsFunc_int_of_impl_goodTerrain_1 v)) (k : Bool → Option γ) : cl_slices_ContainsFunc_int_of_impl_goodTerrain_1 s0 k = k v := cl_eq inj_slices_ContainsFunc_int_of_impl_goodTerrain_1 h k
noncomputable def A_slices_Contains_int (s0 : List Int) (v1 : Int) : Option R := call G 118 [(slc cI s0), (I v1)] []
def en_slices_Contains_int : Bool → R := fun (a : Bool) => (B a, [])
theorem inj_slices_Contains_int : Inj en_slices_Contains_int := fun a b h => by
  first | (simpa [en_slices_Contains_int, Prod.ext_iff, and_assoc] using h) | (obtain _ := a; obtain _ := b; simp [en_slices_Contains_int] at h ⊢; simp_all; done) | (obtain _ := a; obtain _ := b; simp [en_slices_Contains_int] at h; obtain ⟨h1, h2⟩ := h; have h3 := List.append_inj h2.2.2 h1.2.1.1; simp_all)
noncomputable def cl_slices_Contains_int {γ : Type} (s0 : List Int) (v1 : Int) (k : Bool → Option γ) : Option γ := cl en_slices_Contains_int (call G) 118 [(slc cI s0), (I v1)] [] k
theorem k_slices_Contains_int {γ : Type} (s0 : List Int) (v1 : Int) {v : Bool} (h : A_slices_Contains_int s0 v1 = some (en_slices_Contains_int v)) (k : Bool → Option γ) : cl_slices_Contains_int s0 v1 k = k v := cl_eq inj_slices_Contains_int h k
noncomputable def A_spec_l1Cur_mapOf (ml_0 : Dl1Cur) (terrains1 : Int) : Option R := call G 103 [(AV.ptr (Id.l 0) none 0), (I terrains1)] [(Id.l 0, some ⟨false, false, false, 0, cl1Cur ml_0⟩)]
def en_spec_l1Cur_mapOf : DMap × Dl1Cur → R := fun (a : DMap × Dl1Cur) => (AV.agg [I a.fst.Width, I a.fst.Height, AV.own (Id.r 0 0) none 0 (List.length a.fst.Terrain) (List.length a.fst.Terrain), AV.own (Id.r 0 1) none 0 (List.length a.fst.Rivers) (List.length a.fst.Rivers), AV.own (Id.r 0 2) none 0 (List.length a.fst.Roads) (List.length a.fst.Roads)], [(Id.l 0, some { arr := false, fr := false, nest := false, esz := 0, cells := cl1Cur a.snd }), (Id.r 0 0, some (rowB true false 1 cI a.fst.Terrain)), (Id.r 0 1, some (rowB true false 1 cI a.fst.Rivers)), (Id.r 0 2, some (rowB true false 1 cI a.fst.Roads))])
theorem inj_spec_l1Cur_mapOf : Inj en_spec_l1Cur_mapOf := fun a b h => by
  first | (simpa [en_spec_l1Cur_mapOf, Prod.ext_iff, and_assoc] using h) | (obtain ⟨⟨_, _, _, _, _⟩, _⟩ := a; obtain ⟨⟨_, _, _, _, _⟩, _⟩ := b; simp [en_spec_l1Cur_mapOf] at h ⊢; simp_all; done) | (obtain ⟨⟨_, _, _, _, _⟩, _⟩ := a; obtain ⟨⟨_, _, _, _, _⟩, _⟩ := b; simp [en_spec_l1Cur_mapOf] at h; obtain ⟨h1, h2⟩ := h; have h3 := List.append_inj h2.2.2 h1.2.1.1; simp_all)
noncomputable def cl_spec_l1Cur_mapOf {γ : Type} (ml_0 : Dl1Cur) (terrains1 : Int) (k : DMap × Dl1Cur → Option γ) : Option γ := cl en_spec_l1Cur_mapOf (call G) 103 [(AV.ptr (Id.l 0) none 0), (I terrains1)] [(Id.l 0, some ⟨false, false, false, 0, cl1Cur ml_0⟩)] k
theorem ko_spec_l1Cur_mapOf {γ : Type} (ml_0 : Dl1Cur) (terrains1 : Int) {Q : DMap × Dl1Cur → Prop} (h : ∃ v, A_spec_l1Cur_mapOf ml_0 terrains1 = some (en_spec_l1Cur_mapOf v) ∧ Q v) {k : DMap × Dl1Cur → Option γ} {Q' : γ → Prop} (hk : ∀ v, Q v → OK (k v) Q') : OK (cl_spec_l1Cur_mapOf ml_0 terrains1 k) Q' := cl_ok inj_spec_l1Cur_mapOf h hk
noncomputable def A_impl_hexOf (m0 : DMap) (i1 : Int) : Option R := call G 114 [(.agg (cMap m0)), (I i1)] []
def en_impl_hexOf : DHex → R := fun (a : DHex) => (AV.agg (cHex a), [])
theorem inj_impl_hexOf : Inj en_impl_hexOf := fun a b h => by
  first | (simpa [en_impl_hexOf, Prod.ext_iff, and_assoc] using h) | (obtain ⟨_, _⟩ := a; obtain ⟨_, _⟩ := b; simp [en_impl_hexOf] at h ⊢; simp_all; done) | (obtain ⟨_, _⟩ := a; obtain ⟨_, _⟩ := b; simp [en_impl_hexOf] at h; obtain ⟨h1, h2⟩ := h; have h3 := List.append_inj h2.2.2 h1.2.1.1; simp_all)
noncomputable def cl_impl_hexOf {γ : Type} (m0 : DMap) (i1 : Int) (k : DHex → Option γ) : Option γ := cl en_impl_hexOf (call G) 114 [(.agg (cMap m0)), (I i1)] [] k
theorem k_impl_hexOf {γ : Type} (m0 : DMap) (i1 : Int) {v : DHex} (h : A_impl_hexOf m0 i1 = some (en_impl_hexOf v)) (k : DHex → Option γ) : cl_impl_hexOf m0 i1 k = k v := cl_eq inj_impl_hexOf h k
noncomputable def A_spec_l1Has (l0 : List Int) (n1 : Int) : Option R := call G 127 [(slc cI l0), (I n1)] []
def en_spec_l1Has : Bool → R := fun (a : Bool) => (B a, [])
theorem inj_spec_l1Has : Inj en_spec_l1Has := fun a b h => by
  first | (simpa [en_spec_l1Has, Prod.ext_iff, and_assoc] using h) | (obtain _ := a; obtain _ := b; simp [en_spec_l1Has] at h ⊢; simp_all; done) | (obtain _ := a; obtain _ := b; simp [en_spec_l1Has] at h; obtain ⟨h1, h2⟩ := h; have h3 := List.append_inj h2.2.2 h1.2.1.1; simp_all)
noncomputable def cl_spec_l1Has {γ : Type} (l0 : List Int) (n1 : Int) (k : Bool → Option γ) : Option γ := cl en_spec_l1Has (call G) 127 [(slc cI l0), (I n1)] [] k
theorem k_spec_l1Has {γ : Type} (l0 : List Int) (n1 : Int) {v : Bool} (h : A_spec_l1Has l0 n1 = some (en_spec_l1Has v)) (k : Bool → Option γ) : cl_spec_l1Has l0 n1 k = k v := cl_eq inj_spec_l1Has h k
noncomputable def A_impl_edgeOf (m0 : DMap) (i1 : Int) (d2 : Int) : Option R := call G 110 [(.agg (cMap m0)), (I i1), (I d2)] []
def en_impl_edgeOf : Int → R := fun (a : Int) => (I a, [])
theorem inj_impl_edgeOf : Inj en_impl_edgeOf := fun a b h => by
  first | (simpa [en_impl_edgeOf, Prod.ext_iff, and_assoc] using h) | (obtain _ := a; obtain _ := b; simp [en_impl_edgeOf] at h ⊢; simp_all; done) | (obtain _ := a; obtain _ := b; simp [en_impl_edgeOf] at h; obtain ⟨h1, h2⟩ := h; have h3 := List.append_inj h2.2.2 h1.2.1.1; simp_all)
noncomputable def cl_impl_edgeOf {γ : Type} (m0 : DMap) (i1 : Int) (d2 : Int) (k : Int → Option γ) : Option γ := cl en_impl_edgeOf (call G) 110 [(.agg (cMap m0)), (I i1), (I d2)] [] k
theorem k_impl_edgeOf {γ : Type} (m0 : DMap) (i1 : Int) (d2 : Int) {v : Int} (h : A_impl_edgeOf m0 i1 d2 = some (en_impl_edgeOf v)) (k : Int → Option γ) : cl_impl_edgeOf m0 i1 d2 k = k v := cl_eq inj_impl_edgeOf h k
noncomputable def A_slices_IndexFunc_int_of_impl_goodTerrain_1 (s0 : List Int) : Option R := call G 81 [(slc cI s0), (.clo 96 [])] []
def en_slices_IndexFunc_int_of_impl_goodTerrain_1 : Int → R := fun (a : Int) => (I a, [])
theorem inj_slices_IndexFunc_int_of_impl_goodTerrain_1 : Inj en_slices_IndexFunc_int_of_impl_goodTerrain_1 := fun a b h => by
  first | (simpa [en_slices_IndexFunc_int_of_impl_goodTerrain_1, Prod.ext_iff, and_assoc] using h) | (obtain _ := a; obtain _ := b; simp [en_slices_IndexFunc_int_of_impl_goodTerrain_1] at h ⊢; simp_all; done) | (obtain _ := a; obtain _ := b; simp [en_slices_IndexFunc_int_of_impl_goodTerrain_1] at h; obtain ⟨h1, h2⟩ := h; have h3 := List.append_inj h2.2.2 h1.2.1.1; simp_all)
noncomputable def cl_slices_IndexFunc_int_of_impl_goodTerrain_1 {γ : Type} (s0 : List Int) (k : Int → Option γ) : Option γ := cl en_slices_IndexFunc_int_of_impl_goodTerrain_1 (call G) 81 [(slc cI s0), (.clo 96 [])] [] k
theorem k_slices_IndexFunc_int_of_impl_goodTerrain_1 {γ : Type} (s0 : List Int) {v : Int} (h : A_slices_IndexFunc_int_of_impl_goodTerrain_1 s0 = some (en_slices_IndexFunc_int_of_impl_goodTerrain_1 v)) (k : Int → Option γ) : cl_slices_IndexFunc_int_of_impl_goodTerrain_1 s0 k = k v := cl_eq inj_slices_IndexFunc_int_of_impl_goodTerrain_1 h k
noncomputable def A_slices_Index_int (s0 : List Int) (v1 : Int) : Option R := call G 126 [(slc cI s0), (I v1)] []
def en_slices_Index_int : Int → R := fun (a : Int) => (I a, [])
theorem inj_slices_Index_int : Inj en_slices_Index_int := fun a b h => by
  first | (simpa [en_slices_Index_int, Prod.ext_iff, and_assoc] using h) | (obtain _ := a; obtain _ := b; simp [en_slices_Index_int] at h ⊢; simp_all; done) | (obtain _ := a; obtain _ := b; simp [en_slices_Index_int] at h; obtain ⟨h1, h2⟩ := h; have h3 := List.append_inj h2.2.2 h1.2.1.1; simp_all)
noncomputable def cl_slices_Index_int {γ : Type} (s0 : List Int) (v1 : Int) (k : Int → Option γ) : Option γ := cl en_slices_Index_int (call G) 126 [(slc cI s0), (I v1)] [] k
theorem k_slices_Index_int {γ : Type} (s0 : List Int) (v1 : Int) {v : Int} (h : A_slices_Index_int s0 v1 = some (en_slices_Index_int v)) (k : Int → Option γ) : cl_slices_Index_int s0 v1 k = k v := cl_eq inj_slices_Index_int h k
noncomputable def A_impl_goodTerrain_1 (c0 : Int) : Option R := call G 96 [(I c0)] []
def en_impl_goodTerrain_1 : Bool → R := fun (a : Bool) => (B a, [])
theorem inj_impl_goodTerrain_1 : Inj en_impl_goodTerrain_1 := fun a b h => by
  first | (simpa [en_impl_goodTerrain_1, Prod.ext_iff, and_assoc] using h) | (obtain _ := a; obtain _ := b; simp [en_impl_goodTerrain_1] at h ⊢; simp_all; done) | (obtain _ := a; obtain _ := b; simp [en_impl_goodTerrain_1] at h; obtain ⟨h1, h2⟩ := h; have h3 := List.append_inj h2.2.2 h1.2.1.1; simp_all)
noncomputable def cl_impl_goodTerrain_1 {γ : Type} (c0 : Int) (k : Bool → Option γ) : Option γ := cl en_impl_goodTerrain_1 (call G) 96 [(I c0)] [] k
theorem k_impl_goodTerrain_1 {γ : Type} (c0 : Int) {v : Bool} (h : A_impl_goodTerrain_1 c0 = some (en_impl_goodTerrain_1 v)) (k : Bool → Option γ) : cl_impl_goodTerrain_1 c0 k = k v := cl_eq inj_impl_goodTerrain_1 h k
noncomputable def A_spec_l1Rising (l0 : List Int) (lo1 : Int) (hi2 : Int) : Option R := call G 117 [(slc cI l0), (I lo1), (I hi2)] []
def en_spec_l1Rising : Bool → R := fun (a : Bool) => (B a, [])
theorem inj_spec_l1Rising : Inj en_spec_l1Rising := fun a b h => by
  first | (simpa [en_spec_l1Rising, Prod.ext_iff, and_assoc] using h) | (obtain _ := a; obtain _ := b; simp [en_spec_l1Rising] at h ⊢; simp_all; done) | (obtain _ := a; obtain _ := b; simp [en_spec_l1Rising] at h; obtain ⟨h1, h2⟩ := h; have h3 := List.append_inj h2.2.2 h1.2.1.1; simp_all)
noncomputable def cl_spec_l1Rising {γ : Type} (l0 : List Int) (lo1 : Int) (hi2 : Int) (k : Bool → Option γ) : Option γ := cl en_spec_l1Rising (call G) 117 [(slc cI l0), (I lo1), (I hi2)] [] k
theorem k_spec_l1Rising {γ : Type} (l0 : List Int) (lo1 : Int) (hi2 : Int) {v : Bool} (h : A_spec_l1Rising l0 lo1 hi2 = some (en_spec_l1Rising v)) (k : Bool → Option γ) : cl_spec_l1Rising l0 lo1 hi2 k = k v := cl_eq inj_spec_l1Rising h k
noncomputable def A_spec_sOwn (s0 : DState) : Option R := call G 28 [(.agg (cState s0))] []
def en_spec_sOwn : DState → R := fun (a : DState) => (AV.agg [I a.Turn, I a.Weather, AV.own (Id.r 0 0) none 0 (List.length a.Units) (List.length a.Units)], [(Id.r 0 0, some (rowB true false 4 cUnit a.Units))])
theorem inj_spec_sOwn : Inj en_spec_sOwn := fun a b h => by
  first | (simpa [en_spec_sOwn, Prod.ext_iff, and_assoc] using h) | (obtain ⟨_, _, _⟩ := a; obtain ⟨_, _, _⟩ := b; simp [en_spec_sOwn] at h ⊢; simp_all; done) | (obtain ⟨_, _, _⟩ := a; obtain ⟨_, _, _⟩ := b; simp [en_spec_sOwn] at h; obtain ⟨h1, h2⟩ := h; have h3 := List.append_inj h2.2.2 h1.2.1.1; simp_all)
noncomputable def cl_spec_sOwn {γ : Type} (s0 : DState) (k : DState → Option γ) : Option γ := cl en_spec_sOwn (call G) 28 [(.agg (cState s0))] [] k
theorem k_spec_sOwn {γ : Type} (s0 : DState) {v : DState} (h : A_spec_sOwn s0 = some (en_spec_sOwn v)) (k : DState → Option γ) : cl_spec_sOwn s0 k = k v := cl_eq inj_spec_sOwn h k
noncomputable def A_spec_l1Cur_of (ml_0 : Dl1Cur) (list1 : List ByteArray) : Option R := call G 104 [(AV.ptr (Id.l 0) none 0), (slc cS list1)] [(Id.l 0, some ⟨false, false, false, 0, cl1Cur ml_0⟩)]
noncomputable def A_spec_l1Cur_state (ml_0 : Dl1Cur) (b1 : DBoard) : Option R := call G 85 [(AV.ptr (Id.l 0) none 0), (.agg (cBoard b1))] [(Id.l 0, some ⟨false, false, false, 0, cl1Cur ml_0⟩)]
def en_spec_l1Cur_state : DState × Dl1Cur → R := fun (a : DState × Dl1Cur) => (AV.agg [I a.fst.Turn, I a.fst.Weather, AV.own (Id.r 0 0) none 0 (List.length a.fst.Units) (List.length a.fst.Units)], [(Id.l 0, some { arr := false, fr := false, nest := false, esz := 0, cells := cl1Cur a.snd }), (Id.r 0 0, some (rowB true false 4 cUnit a.fst.Units))])
theorem inj_spec_l1Cur_state : Inj en_spec_l1Cur_state := fun a b h => by
  first | (simpa [en_spec_l1Cur_state, Prod.ext_iff, and_assoc] using h) | (obtain ⟨⟨_, _, _⟩, _⟩ := a; obtain ⟨⟨_, _, _⟩, _⟩ := b; simp [en_spec_l1Cur_state] at h ⊢; simp_all; done) | (obtain ⟨⟨_, _, _⟩, _⟩ := a; obtain ⟨⟨_, _, _⟩, _⟩ := b; simp [en_spec_l1Cur_state] at h; obtain ⟨h1, h2⟩ := h; have h3 := List.append_inj h2.2.2 h1.2.1.1; simp_all)
noncomputable def cl_spec_l1Cur_state {γ : Type} (ml_0 : Dl1Cur) (b1 : DBoard) (k : DState × Dl1Cur → Option γ) : Option γ := cl en_spec_l1Cur_state (call G) 85 [(AV.ptr (Id.l 0) none 0), (.agg (cBoard b1))] [(Id.l 0, some ⟨false, false, false, 0, cl1Cur ml_0⟩)] k
theorem ko_spec_l1Cur_state {γ : Type} (ml_0 : Dl1Cur) (b1 : DBoard) {Q : DState × Dl1Cur → Prop} (h : ∃ v, A_spec_l1Cur_state ml_0 b1 = some (en_spec_l1Cur_state v) ∧ Q v) {k : DState × Dl1Cur → Option γ} {Q' : γ → Prop} (hk : ∀ v, Q v → OK (k v) Q') : OK (cl_spec_l1Cur_state ml_0 b1 k) Q' := cl_ok inj_spec_l1Cur_state h hk
noncomputable def A_impl_buildCode (b0 : DBoard) (s1 : DState) (x2 : DWorks) : Option R := call G 41 [(.agg (cBoard b0)), (.agg (cState s1)), (.agg (cWorks x2))] []
def en_impl_buildCode : Int → R := fun (a : Int) => (I a, [])
theorem inj_impl_buildCode : Inj en_impl_buildCode := fun a b h => by
  first | (simpa [en_impl_buildCode, Prod.ext_iff, and_assoc] using h) | (obtain _ := a; obtain _ := b; simp [en_impl_buildCode] at h ⊢; simp_all; done) | (obtain _ := a; obtain _ := b; simp [en_impl_buildCode] at h; obtain ⟨h1, h2⟩ := h; have h3 := List.append_inj h2.2.2 h1.2.1.1; simp_all)
noncomputable def cl_impl_buildCode {γ : Type} (b0 : DBoard) (s1 : DState) (x2 : DWorks) (k : Int → Option γ) : Option γ := cl en_impl_buildCode (call G) 41 [(.agg (cBoard b0)), (.agg (cState s1)), (.agg (cWorks x2))] [] k
theorem k_impl_buildCode {γ : Type} (b0 : DBoard) (s1 : DState) (x2 : DWorks) {v : Int} (h : A_impl_buildCode b0 s1 x2 = some (en_impl_buildCode v)) (k : Int → Option γ) : cl_impl_buildCode b0 s1 x2 k = k v := cl_eq inj_impl_buildCode h k
def en_spec_l1Cur_game : (DBoard × DState) × Dl1Cur → R := fun (a : (DBoard × DState) × Dl1Cur) => (AV.tup [AV.agg (cBoard a.fst.fst), AV.agg [I a.fst.snd.Turn, I a.fst.snd.Weather, AV.own (Id.r 0 0) none 0 (List.length a.fst.snd.Units) (List.length a.fst.snd.Units)]], [(Id.l 0, some { arr := false, fr := false, nest := false, esz := 0, cells := cl1Cur a.snd }), (Id.r 0 0, some (rowB true false 4 cUnit a.fst.snd.Units))])
theorem inj_spec_l1Cur_game : Inj en_spec_l1Cur_game := fun a b h => by
  first | (simpa [en_spec_l1Cur_game, Prod.ext_iff, and_assoc] using h) | (obtain ⟨⟨⟨⟨_, _, _, _, _, _, _⟩, ⟨_, _, _, _, _⟩⟩, ⟨_, _, _⟩⟩, _⟩ := a; obtain ⟨⟨⟨⟨_, _, _, _, _, _, _⟩, ⟨_, _, _, _, _⟩⟩, ⟨_, _, _⟩⟩, _⟩ := b; simp [en_spec_l1Cur_game] at h ⊢; simp_all; done) | (obtain ⟨⟨⟨⟨_, _, _, _, _, _, _⟩, ⟨_, _, _, _, _⟩⟩, ⟨_, _, _⟩⟩, _⟩ := a; obtain ⟨⟨⟨⟨_, _, _, _, _, _, _⟩, ⟨_, _, _, _, _⟩⟩, ⟨_, _, _⟩⟩, _⟩ := b; simp [en_spec_l1Cur_game] at h; obtain ⟨h1, h2⟩ := h; have h3 := List.append_inj h2.2.2 h1.2.1.1; simp_all)
noncomputable def cl_spec_l1Cur_game {γ : Type} (ml_0 : Dl1Cur) (k : (DBoard × DState) × Dl1Cur → Option γ) : Option γ := cl en_spec_l1Cur_game (call G) 36 [(AV.ptr (Id.l 0) none 0)] [(Id.l 0, some ⟨false, false, false, 0, cl1Cur ml_0⟩)] k
theorem ko_spec_l1Cur_game {γ : Type} (ml_0 : Dl1Cur) {Q : (DBoard × DState) × Dl1Cur → Prop} (h : ∃ v, A_spec_l1Cur_game ml_0 = some (en_spec_l1Cur_game v) ∧ Q v) {k : (DBoard × DState) × Dl1Cur → Option γ} {Q' : γ → Prop} (hk : ∀ v, Q v → OK (k v) Q') : OK (cl_spec_l1Cur_game ml_0 k) Q' := cl_ok inj_spec_l1Cur_game h hk
noncomputable def A_spec_l1Cur_works (ml_0 : Dl1Cur) (b1 : DBoard) : Option R := call G 37 [(AV.ptr (Id.l 0) none 0), (.agg (cBoard b1))] [(Id.l 0, some ⟨false, false, false, 0, cl1Cur ml_0⟩)]
def en_spec_l1Cur_works : DWorks × Dl1Cur → R := fun (a : DWorks × Dl1Cur) => (AV.agg (cWorks a.fst), [(Id.l 0, some { arr := false, fr := false, nest := false, esz := 0, cells := cl1Cur a.snd })])
theorem inj_spec_l1Cur_works : Inj en_spec_l1Cur_works := fun a b h => by
  first | (simpa [en_spec_l1Cur_works, Prod.ext_iff, and_assoc] using h) | (obtain ⟨⟨_, _, _, _⟩, _⟩ := a; obtain ⟨⟨_, _, _, _⟩, _⟩ := b; simp [en_spec_l1Cur_works] at h ⊢; simp_all; done) | (obtain ⟨⟨_, _, _, _⟩, _⟩ := a; obtain ⟨⟨_, _, _, _⟩, _⟩ := b; simp [en_spec_l1Cur_works] at h; obtain ⟨h1, h2⟩ := h; have h3 := List.append_inj h2.2.2 h1.2.1.1; simp_all)
noncomputable def cl_spec_l1Cur_works {γ : Type} (ml_0 : Dl1Cur) (b1 : DBoard) (k : DWorks × Dl1Cur → Option γ) : Option γ := cl en_spec_l1Cur_works (call G) 37 [(AV.ptr (Id.l 0) none 0), (.agg (cBoard b1))] [(Id.l 0, some ⟨false, false, false, 0, cl1Cur ml_0⟩)] k
theorem ko_spec_l1Cur_works {γ : Type} (ml_0 : Dl1Cur) (b1 : DBoard) {Q : DWorks × Dl1Cur → Prop} (h : ∃ v, A_spec_l1Cur_works ml_0 b1 = some (en_spec_l1Cur_works v) ∧ Q v) {k : DWorks × Dl1Cur → Option γ} {Q' : γ → Prop} (hk : ∀ v, Q v → OK (k v) Q') : OK (cl_spec_l1Cur_works ml_0 b1 k) Q' := cl_ok inj_spec_l1Cur_works h hk
noncomputable def A_laws_qUnits (a0 : List DUnit) (b1 : List DUnit) : Option R := call G 30 [(slc cUnit a0), (slc cUnit b1)] []
def en_laws_qUnits : Bool → R := fun (a : Bool) => (B a, [])
theorem inj_laws_qUnits : Inj en_laws_qUnits := fun a b h => by
  first | (simpa [en_laws_qUnits, Prod.ext_iff, and_assoc] using h) | (obtain _ := a; obtain _ := b; simp [en_laws_qUnits] at h ⊢; simp_all; done) | (obtain _ := a; obtain _ := b; simp [en_laws_qUnits] at h; obtain ⟨h1, h2⟩ := h; have h3 := List.append_inj h2.2.2 h1.2.1.1; simp_all)
noncomputable def cl_laws_qUnits {γ : Type} (a0 : List DUnit) (b1 : List DUnit) (k : Bool → Option γ) : Option γ := cl en_laws_qUnits (call G) 30 [(slc cUnit a0), (slc cUnit b1)] [] k
theorem k_laws_qUnits {γ : Type} (a0 : List DUnit) (b1 : List DUnit) {v : Bool} (h : A_laws_qUnits a0 b1 = some (en_laws_qUnits v)) (k : Bool → Option γ) : cl_laws_qUnits a0 b1 k = k v := cl_eq inj_laws_qUnits h k
noncomputable def A_impl_isKindOf (b0 : DBoard) (kind1 : Int) : Option R := call G 34 [(.agg (cBoard b0)), (I kind1)] []
def en_impl_isKindOf : Bool → R := fun (a : Bool) => (B a, [])
theorem inj_impl_isKindOf : Inj en_impl_isKindOf := fun a b h => by
  first | (simpa [en_impl_isKindOf, Prod.ext_iff, and_assoc] using h) | (obtain _ := a; obtain _ := b; simp [en_impl_isKindOf] at h ⊢; simp_all; done) | (obtain _ := a; obtain _ := b; simp [en_impl_isKindOf] at h; obtain ⟨h1, h2⟩ := h; have h3 := List.append_inj h2.2.2 h1.2.1.1; simp_all)
noncomputable def cl_impl_isKindOf {γ : Type} (b0 : DBoard) (kind1 : Int) (k : Bool → Option γ) : Option γ := cl en_impl_isKindOf (call G) 34 [(.agg (cBoard b0)), (I kind1)] [] k
theorem k_impl_isKindOf {γ : Type} (b0 : DBoard) (kind1 : Int) {v : Bool} (h : A_impl_isKindOf b0 kind1 = some (en_impl_isKindOf v)) (k : Bool → Option γ) : cl_impl_isKindOf b0 kind1 k = k v := cl_eq inj_impl_isKindOf h k
noncomputable def A_spec_l1Cur_edges (ml_0 : Dl1Cur) (m1 : DMap) : Option R := call G 115 [(AV.ptr (Id.l 0) none 0), (.agg (cMap m1))] [(Id.l 0, some ⟨false, false, false, 0, cl1Cur ml_0⟩)]
def en_spec_l1Cur_edges : List Int × Dl1Cur → R := fun (a : List Int × Dl1Cur) => (AV.own (Id.r 0 0) none 0 (List.length a.fst) (List.length a.fst), [(Id.l 0, some { arr := false, fr := false, nest := false, esz := 0, cells := cl1Cur a.snd }), (Id.r 0 0, some (rowB true false 1 cI a.fst))])
theorem inj_spec_l1Cur_edges : Inj en_spec_l1Cur_edges := fun a b h => by
  first | (simpa [en_spec_l1Cur_edges, Prod.ext_iff, and_assoc] using h) | (obtain ⟨_, _⟩ := a; obtain ⟨_, _⟩ := b; simp [en_spec_l1Cur_edges] at h ⊢; simp_all; done) | (obtain ⟨_, _⟩ := a; obtain ⟨_, _⟩ := b; simp [en_spec_l1Cur_edges] at h; obtain ⟨h1, h2⟩ := h; have h3 := List.append_inj h2.2.2 h1.2.1.1; simp_all)
noncomputable def cl_spec_l1Cur_edges {γ : Type} (ml_0 : Dl1Cur) (m1 : DMap) (k : List Int × Dl1Cur → Option γ) : Option γ := cl en_spec_l1Cur_edges (call G) 115 [(AV.ptr (Id.l 0) none 0), (.agg (cMap m1))] [(Id.l 0, some ⟨false, false, false, 0, cl1Cur ml_0⟩)] k
theorem ko_spec_l1Cur_edges {γ : Type} (ml_0 : Dl1Cur) (m1 : DMap) {Q : List Int × Dl1Cur → Prop} (h : ∃ v, A_spec_l1Cur_edges ml_0 m1 = some (en_spec_l1Cur_edges v) ∧ Q v) {k : List Int × Dl1Cur → Option γ} {Q' : γ → Prop} (hk : ∀ v, Q v → OK (k v) Q') : OK (cl_spec_l1Cur_edges ml_0 m1 k) Q' := cl_ok inj_spec_l1Cur_edges h hk
noncomputable def A_spec_pdGood (b0 : DBoard) (x1 : DWorks) : Option R := call G 43 [(.agg (cBoard b0)), (.agg (cWorks x1))] []
def en_spec_pdGood : Bool → R := fun (a : Bool) => (B a, [])
theorem inj_spec_pdGood : Inj en_spec_pdGood := fun a b h => by
  first | (simpa [en_spec_pdGood, Prod.ext_iff, and_assoc] using h) | (obtain _ := a; obtain _ := b; simp [en_spec_pdGood] at h ⊢; simp_all; done) | (obtain _ := a; obtain _ := b; simp [en_spec_pdGood] at h; obtain ⟨h1, h2⟩ := h; have h3 := List.append_inj h2.2.2 h1.2.1.1; simp_all)
noncomputable def cl_spec_pdGood {γ : Type} (b0 : DBoard) (x1 : DWorks) (k : Bool → Option γ) : Option γ := cl en_spec_pdGood (call G) 43 [(.agg (cBoard b0)), (.agg (cWorks x1))] [] k
theorem k_spec_pdGood {γ : Type} (b0 : DBoard) (x1 : DWorks) {v : Bool} (h : A_spec_pdGood b0 x1 = some (en_spec_pdGood v)) (k : Bool → Option γ) : cl_spec_pdGood b0 x1 k = k v := cl_eq inj_spec_pdGood h k
noncomputable def A_impl_stackRoom (b0 : DBoard) (s1 : DState) (side2 : Int) (i3 : Int) : Option R := call G 66 [(.agg (cBoard b0)), (.agg (cState s1)), (I side2), (I i3)] []
def en_impl_stackRoom : Int → R := fun (a : Int) => (I a, [])
theorem inj_impl_stackRoom : Inj en_impl_stackRoom := fun a b h => by
  first | (simpa [en_impl_stackRoom, Prod.ext_iff, and_assoc] using h) | (obtain _ := a; obtain _ := b; simp [en_impl_stackRoom] at h ⊢; simp_all; done) | (obtain _ := a; obtain _ := b; simp [en_impl_stackRoom] at h; obtain ⟨h1, h2⟩ := h; have h3 := List.append_inj h2.2.2 h1.2.1.1; simp_all)
noncomputable def cl_impl_stackRoom {γ : Type} (b0 : DBoard) (s1 : DState) (side2 : Int) (i3 : Int) (k : Int → Option γ) : Option γ := cl en_impl_stackRoom (call G) 66 [(.agg (cBoard b0)), (.agg (cState s1)), (I side2), (I i3)] [] k
theorem k_impl_stackRoom {γ : Type} (b0 : DBoard) (s1 : DState) (side2 : Int) (i3 : Int) {v : Int} (h : A_impl_stackRoom b0 s1 side2 i3 = some (en_impl_stackRoom v)) (k : Int → Option γ) : cl_impl_stackRoom b0 s1 side2 i3 k = k v := cl_eq inj_impl_stackRoom h k
noncomputable def A_impl_goodWorks (b0 : DBoard) (x1 : DWorks) : Option R := call G 33 [(.agg (cBoard b0)), (.agg (cWorks x1))] []
def en_impl_goodWorks : Bool → R := fun (a : Bool) => (B a, [])
theorem inj_impl_goodWorks : Inj en_impl_goodWorks := fun a b h => by
  first | (simpa [en_impl_goodWorks, Prod.ext_iff, and_assoc] using h) | (obtain _ := a; obtain _ := b; simp [en_impl_goodWorks] at h ⊢; simp_all; done) | (obtain _ := a; obtain _ := b; simp [en_impl_goodWorks] at h; obtain ⟨h1, h2⟩ := h; have h3 := List.append_inj h2.2.2 h1.2.1.1; simp_all)
noncomputable def cl_impl_goodWorks {γ : Type} (b0 : DBoard) (x1 : DWorks) (k : Bool → Option γ) : Option γ := cl en_impl_goodWorks (call G) 33 [(.agg (cBoard b0)), (.agg (cWorks x1))] [] k
theorem k_impl_goodWorks {γ : Type} (b0 : DBoard) (x1 : DWorks) {v : Bool} (h : A_impl_goodWorks b0 x1 = some (en_impl_goodWorks v)) (k : Bool → Option γ) : cl_impl_goodWorks b0 x1 k = k v := cl_eq inj_impl_goodWorks h k
noncomputable def A_spec_sGood (b0 : DBoard) (s1 : DState) : Option R := call G 42 [(.agg (cBoard b0)), (.agg (cState s1))] []
def en_spec_sGood : Bool → R := fun (a : Bool) => (B a, [])
theorem inj_spec_sGood : Inj en_spec_sGood := fun a b h => by
  first | (simpa [en_spec_sGood, Prod.ext_iff, and_assoc] using h) | (obtain _ := a; obtain _ := b; simp [en_spec_sGood] at h ⊢; simp_all; done) | (obtain _ := a; obtain _ := b; simp [en_spec_sGood] at h; obtain ⟨h1, h2⟩ := h; have h3 := List.append_inj h2.2.2 h1.2.1.1; simp_all)
noncomputable def cl_spec_sGood {γ : Type} (b0 : DBoard) (s1 : DState) (k : Bool → Option γ) : Option γ := cl en_spec_sGood (call G) 42 [(.agg (cBoard b0)), (.agg (cState s1))] [] k
theorem k_spec_sGood {γ : Type} (b0 : DBoard) (s1 : DState) {v : Bool} (h : A_spec_sGood b0 s1 = some (en_spec_sGood v)) (k : Bool → Option γ) : cl_spec_sGood b0 s1 k = k v := cl_eq inj_spec_sGood h k
noncomputable def A_slices_Clone_Unit (s0 : List DUnit) : Option R := call G 48 [(slc cUnit s0)] []
def en_slices_Clone_Unit : List DUnit → R := fun (a : List DUnit) => (AV.own (Id.r 0 0) none 0 (List.length a) (List.length a), [(Id.r 0 0, some (rowB true false 4 cUnit a))])
theorem inj_slices_Clone_Unit : Inj en_slices_Clone_Unit := fun a b h => by
  first | (simpa [en_slices_Clone_Unit, Prod.ext_iff, and_assoc] using h) | (obtain _ := a; obtain _ := b; simp [en_slices_Clone_Unit] at h ⊢; simp_all; done) | (obtain _ := a; obtain _ := b; simp [en_slices_Clone_Unit] at h; obtain ⟨h1, h2⟩ := h; have h3 := List.append_inj h2.2.2 h1.2.1.1; simp_all)
noncomputable def cl_slices_Clone_Unit {γ : Type} (s0 : List DUnit) (k : List DUnit → Option γ) : Option γ := cl en_slices_Clone_Unit (call G) 48 [(slc cUnit s0)] [] k
theorem k_slices_Clone_Unit {γ : Type} (s0 : List DUnit) {v : List DUnit} (h : A_slices_Clone_Unit s0 = some (en_slices_Clone_Unit v)) (k : List DUnit → Option γ) : cl_slices_Clone_Unit s0 k = k v := cl_eq inj_slices_Clone_Unit h k
noncomputable def A_impl_terrainIndex (list0 : List DTerrain) (name1 : ByteArray) : Option R := call G 76 [(slc cTerrain list0), (S name1)] []
def en_impl_terrainIndex : Int → R := fun (a : Int) => (I a, [])
theorem inj_impl_terrainIndex : Inj en_impl_terrainIndex := fun a b h => by
  first | (simpa [en_impl_terrainIndex, Prod.ext_iff, and_assoc] using h) | (obtain _ := a; obtain _ := b; simp [en_impl_terrainIndex] at h ⊢; simp_all; done) | (obtain _ := a; obtain _ := b; simp [en_impl_terrainIndex] at h; obtain ⟨h1, h2⟩ := h; have h3 := List.append_inj h2.2.2 h1.2.1.1; simp_all)
noncomputable def cl_impl_terrainIndex {γ : Type} (list0 : List DTerrain) (name1 : ByteArray) (k : Int → Option γ) : Option γ := cl en_impl_terrainIndex (call G) 76 [(slc cTerrain list0), (S name1)] [] k
theorem k_impl_terrainIndex {γ : Type} (list0 : List DTerrain) (name1 : ByteArray) {v : Int} (h : A_impl_terrainIndex list0 name1 = some (en_impl_terrainIndex v)) (k : Int → Option γ) : cl_impl_terrainIndex list0 name1 k = k v := cl_eq inj_impl_terrainIndex h k
noncomputable def A_spec_l1Cur_place (ml_0 : Dl1Cur) (m1 : DMap) : Option R := call G 63 [(AV.ptr (Id.l 0) none 0), (.agg (cMap m1))] [(Id.l 0, some ⟨false, false, false, 0, cl1Cur ml_0⟩)]
def en_spec_l1Cur_place : Int × Dl1Cur → R := fun (a : Int × Dl1Cur) => (I a.fst, [(Id.l 0, some { arr := false, fr := false, nest := false, esz := 0, cells := cl1Cur a.snd })])
theorem inj_spec_l1Cur_place : Inj en_spec_l1Cur_place := fun a b h => by
  first | (simpa [en_spec_l1Cur_place, Prod.ext_iff, and_assoc] using h) | (obtain ⟨_, _⟩ := a; obtain ⟨_, _⟩ := b; simp [en_spec_l1Cur_place] at h ⊢; simp_all; done) | (obtain ⟨_, _⟩ := a; obtain ⟨_, _⟩ := b; simp [en_spec_l1Cur_place] at h; obtain ⟨h1, h2⟩ := h; have h3 := List.append_inj h2.2.2 h1.2.1.1; simp_all)
noncomputable def cl_spec_l1Cur_place {γ : Type} (ml_0 : Dl1Cur) (m1 : DMap) (k : Int × Dl1Cur → Option γ) : Option γ := cl en_spec_l1Cur_place (call G) 63 [(AV.ptr (Id.l 0) none 0), (.agg (cMap m1))] [(Id.l 0, some ⟨false, false, false, 0, cl1Cur ml_0⟩)] k
theorem ko_spec_l1Cur_place {γ : Type} (ml_0 : Dl1Cur) (m1 : DMap) {Q : Int × Dl1Cur → Prop} (h : ∃ v, A_spec_l1Cur_place ml_0 m1 = some (en_spec_l1Cur_place v) ∧ Q v) {k : Int × Dl1Cur → Option γ} {Q' : γ → Prop} (hk : ∀ v, Q v → OK (k v) Q') : OK (cl_spec_l1Cur_place ml_0 m1 k) Q' := cl_ok inj_spec_l1Cur_place h hk
noncomputable def A_spec_mRiver (m0 : DMap) (i1 : Int) (d2 : Int) : Option R := call G 119 [(.agg (cMap m0)), (I i1), (I d2)] []
def en_spec_mRiver : Bool → R := fun (a : Bool) => (B a, [])
theorem inj_spec_mRiver : Inj en_spec_mRiver := fun a b h => by
  first | (simpa [en_spec_mRiver, Prod.ext_iff, and_assoc] using h) | (obtain _ := a; obtain _ := b; simp [en_spec_mRiver] at h ⊢; simp_all; done) | (obtain _ := a; obtain _ := b; simp [en_spec_mRiver] at h; obtain ⟨h1, h2⟩ := h; have h3 := List.append_inj h2.2.2 h1.2.1.1; simp_all)
noncomputable def cl_spec_mRiver {γ : Type} (m0 : DMap) (i1 : Int) (d2 : Int) (k : Bool → Option γ) : Option γ := cl en_spec_mRiver (call G) 119 [(.agg (cMap m0)), (I i1), (I d2)] [] k
theorem k_spec_mRiver {γ : Type} (m0 : DMap) (i1 : Int) (d2 : Int) {v : Bool} (h : A_spec_mRiver m0 i1 d2 = some (en_spec_mRiver v)) (k : Bool → Option γ) : cl_spec_mRiver m0 i1 d2 k = k v := cl_eq inj_spec_mRiver h k
noncomputable def A_impl_goodUnit (b0 : DBoard) (u1 : DUnit) : Option R := call G 56 [(.agg (cBoard b0)), (.agg (cUnit u1))] []
def en_impl_goodUnit : Bool → R := fun (a : Bool) => (B a, [])
theorem inj_impl_goodUnit : Inj en_impl_goodUnit := fun a b h => by
  first | (simpa [en_impl_goodUnit, Prod.ext_iff, and_assoc] using h) | (obtain _ := a; obtain _ := b; simp [en_impl_goodUnit] at h ⊢; simp_all; done) | (obtain _ := a; obtain _ := b; simp [en_impl_goodUnit] at h; obtain ⟨h1, h2⟩ := h; have h3 := List.append_inj h2.2.2 h1.2.1.1; simp_all)
noncomputable def cl_impl_goodUnit {γ : Type} (b0 : DBoard) (u1 : DUnit) (k : Bool → Option γ) : Option γ := cl en_impl_goodUnit (call G) 56 [(.agg (cBoard b0)), (.agg (cUnit u1))] [] k
theorem k_impl_goodUnit {γ : Type} (b0 : DBoard) (u1 : DUnit) {v : Bool} (h : A_impl_goodUnit b0 u1 = some (en_impl_goodUnit v)) (k : Bool → Option γ) : cl_impl_goodUnit b0 u1 k = k v := cl_eq inj_impl_goodUnit h k
noncomputable def A_spec_mEdges (m0 : DMap) (l1 : List Int) : Option R := call G 108 [(.agg (cMap m0)), (slc cI l1)] []
def en_spec_mEdges : Bool → R := fun (a : Bool) => (B a, [])
theorem inj_spec_mEdges : Inj en_spec_mEdges := fun a b h => by
  first | (simpa [en_spec_mEdges, Prod.ext_iff, and_assoc] using h) | (obtain _ := a; obtain _ := b; simp [en_spec_mEdges] at h ⊢; simp_all; done) | (obtain _ := a; obtain _ := b; simp [en_spec_mEdges] at h; obtain ⟨h1, h2⟩ := h; have h3 := List.append_inj h2.2.2 h1.2.1.1; simp_all)
noncomputable def cl_spec_mEdges {γ : Type} (m0 : DMap) (l1 : List Int) (k : Bool → Option γ) : Option γ := cl en_spec_mEdges (call G) 108 [(.agg (cMap m0)), (slc cI l1)] [] k
theorem k_spec_mEdges {γ : Type} (m0 : DMap) (l1 : List Int) {v : Bool} (h : A_spec_mEdges m0 l1 = some (en_spec_mEdges v)) (k : Bool → Option γ) : cl_spec_mEdges m0 l1 k = k v := cl_eq inj_spec_mEdges h k
noncomputable def A_impl_unitsAt (s0 : DState) (i1 : Int) : Option R := call G 91 [(.agg (cState s0)), (I i1)] []
def en_impl_unitsAt : List Int → R := fun (a : List Int) => (slc cI a, [])
theorem inj_impl_unitsAt : Inj en_impl_unitsAt := fun a b h => by
  first | (simpa [en_impl_unitsAt, Prod.ext_iff, and_assoc] using h) | (obtain _ := a; obtain _ := b; simp [en_impl_unitsAt] at h ⊢; simp_all; done) | (obtain _ := a; obtain _ := b; simp [en_impl_unitsAt] at h; obtain ⟨h1, h2⟩ := h; have h3 := List.append_inj h2.2.2 h1.2.1.1; simp_all)
noncomputable def cl_impl_unitsAt {γ : Type} (s0 : DState) (i1 : Int) (k : List Int → Option γ) : Option γ := cl en_impl_unitsAt (call G) 91 [(.agg (cState s0)), (I i1)] [] k
theorem k_impl_unitsAt {γ : Type} (s0 : DState) (i1 : Int) {v : List Int} (h : A_impl_unitsAt s0 i1 = some (en_impl_unitsAt v)) (k : List Int → Option γ) : cl_impl_unitsAt s0 i1 k = k v := cl_eq inj_impl_unitsAt h k
def en_spec_l1Cur_of : ByteArray × Dl1Cur → R := fun (a : ByteArray × Dl1Cur) => (S a.fst, [(Id.l 0, some { arr := false, fr := false, nest := false, esz := 0, cells := cl1Cur a.snd })])
theorem inj_spec_l1Cur_of : Inj en_spec_l1Cur_of := fun a b h => by
  first | (simpa [en_spec_l1Cur_of, Prod.ext_iff, and_assoc] using h) | (obtain ⟨_, _⟩ := a; obtain ⟨_, _⟩ := b; simp [en_spec_l1Cur_of] at h ⊢; simp_all; done) | (obtain ⟨_, _⟩ := a; obtain ⟨_, _⟩ := b; simp [en_spec_l1Cur_of] at h; obtain ⟨h1, h2⟩ := h; have h3 := List.append_inj h2.2.2 h1.2.1.1; simp_all)
noncomputable def cl_spec_l1Cur_of {γ : Type} (ml_0 : Dl1Cur) (list1 : List ByteArray) (k : ByteArray × Dl1Cur → Option γ) : Option γ := cl en_spec_l1Cur_of (call G) 104 [(AV.ptr (Id.l 0) none 0), (slc cS list1)] [(Id.l 0, some ⟨false, false, false, 0, cl1Cur ml_0⟩)] k
theorem ko_spec_l1Cur_of {γ : Type} (ml_0 : Dl1Cur) (list1 : List ByteArray) {Q : ByteArray × Dl1Cur → Prop} (h : ∃ v, A_spec_l1Cur_of ml_0 list1 = some (en_spec_l1Cur_of v) ∧ Q v) {k : ByteArray × Dl1Cur → Option γ} {Q' : γ → Prop} (hk : ∀ v, Q v → OK (k v) Q') : OK (cl_spec_l1Cur_of ml_0 list1 k) Q' := cl_ok inj_spec_l1Cur_of h hk
noncomputable def A_spec_l1Least (a0 : Int) (b1 : Int) : Option R := call G 44 [(I a0), (I b1)] []
def en_spec_l1Least : Int → R := fun (a : Int) => (I a, [])
theorem inj_spec_l1Least : Inj en_spec_l1Least := fun a b h => by
  first | (simpa [en_spec_l1Least, Prod.ext_iff, and_assoc] using h) | (obtain _ := a; obtain _ := b; simp [en_spec_l1Least] at h ⊢; simp_all; done) | (obtain _ := a; obtain _ := b; simp [en_spec_l1Least] at h; obtain ⟨h1, h2⟩ := h; have h3 := List.append_inj h2.2.2 h1.2.1.1; simp_all)
noncomputable def cl_spec_l1Least {γ : Type} (a0 : Int) (b1 : Int) (k : Int → Option γ) : Option γ := cl en_spec_l1Least (call G) 44 [(I a0), (I b1)] [] k
theorem k_spec_l1Least {γ : Type} (a0 : Int) (b1 : Int) {v : Int} (h : A_spec_l1Least a0 b1 = some (en_spec_l1Least v)) (k : Int → Option γ) : cl_spec_l1Least a0 b1 k = k v := cl_eq inj_spec_l1Least h k
noncomputable def A_slices_IndexFunc_Terrain_of_impl_terrainIndex_1 (ml_0f0 : ByteArray) (s0 : List DTerrain) : Option R := call G 97 [(slc cTerrain s0), (.clo 98 [(AV.ptr (Id.l 0) none 0)])] [(Id.l 0, some ⟨false, false, false, 0, [(S ml_0f0)]⟩)]
def en_slices_IndexFunc_Terrain_of_impl_terrainIndex_1 : Int × ByteArray → R := fun (a : Int × ByteArray) => (I a.fst, [(Id.l 0, some { arr := false, fr := false, nest := false, esz := 0, cells := [S a.snd] })])
theorem inj_slices_IndexFunc_Terrain_of_impl_terrainIndex_1 : Inj en_slices_IndexFunc_Terrain_of_impl_terrainIndex_1 := fun a b h => by
  first | (simpa [en_slices_IndexFunc_Terrain_of_impl_terrainIndex_1, Prod.ext_iff, and_assoc] using h) | (obtain ⟨_, _⟩ := a; obtain ⟨_, _⟩ := b; simp [en_slices_IndexFunc_Terrain_of_impl_terrainIndex_1] at h ⊢; simp_all; done) | (obtain ⟨_, _⟩ := a; obtain ⟨_, _⟩ := b; simp [en_slices_IndexFunc_Terrain_of_impl_terrainIndex_1] at h; obtain ⟨h1, h2⟩ := h; have h3 := List.append_inj h2.2.2 h1.2.1.1; simp_all)
noncomputable def cl_slices_IndexFunc_Terrain_of_impl_terrainIndex_1 {γ : Type} (ml_0f0 : ByteArray) (s0 : List DTerrain) (k : Int × ByteArray → Option γ) : Option γ := cl en_slices_IndexFunc_Terrain_of_impl_terrainIndex_1 (call G) 97 [(slc cTerrain s0), (.clo 98 [(AV.ptr (Id.l 0) none 0)])] [(Id.l 0, some ⟨false, false, false, 0, [(S ml_0f0)]⟩)] k
theorem k_slices_IndexFunc_Terrain_of_impl_terrainIndex_1 {γ : Type} (ml_0f0 : ByteArray) (s0 : List DTerrain) {v : Int × ByteArray} (h : A_slices_IndexFunc_Terrain_of_impl_terrainIndex_1 ml_0f0 s0 = some (en_slices_IndexFunc_Terrain_of_impl_terrainIndex_1 v)) (k : Int × ByteArray → Option γ) : cl_slices_IndexFunc_Terrain_of_impl_terrainIndex_1 ml_0f0 s0 k = k v := cl_eq inj_slices_IndexFunc_Terrain_of_impl_terrainIndex_1 h k
noncomputable def A_spec_l1Put (ml_0 : List Int) (l0o : Nat) (l0n : Nat) (l0k : Nat) (n1 : Int) : Option R := call G 121 [(.own (Id.l 0) none l0o l0n l0k), (I n1)] [(Id.l 0, some (rowB false false 1 cI ml_0))]
def en_spec_l1Put : Nat × List Int → R := fun (a : Nat × List Int) => (AV.own (Id.l 0) none 0 a.fst a.fst, [(Id.l 0, some (rowB false false 1 cI a.snd))])
theorem inj_spec_l1Put : Inj en_spec_l1Put := fun a b h => by
  first | (simpa [en_spec_l1Put, Prod.ext_iff, and_assoc] using h) | (obtain ⟨_, _⟩ := a; obtain ⟨_, _⟩ := b; simp [en_spec_l1Put] at h ⊢; simp_all; done) | (obtain ⟨_, _⟩ := a; obtain ⟨_, _⟩ := b; simp [en_spec_l1Put] at h; obtain ⟨h1, h2⟩ := h; have h3 := List.append_inj h2.2.2 h1.2.1.1; simp_all)
def en2_spec_l1Put : List Int × List Int → R := fun (a : List Int × List Int) => (AV.own (Id.r 0 0) none 0 (List.length a.fst) (List.length a.fst), [(Id.l 0, some (rowB false false 1 cI a.snd)), (Id.r 0 0, some (rowB true false 1 cI a.fst))])
theorem inj2_spec_l1Put : Inj en2_spec_l1Put := fun a b h => by
  first | (simpa [en2_spec_l1Put, Prod.ext_iff, and_assoc] using h) | (obtain ⟨_, _⟩ := a; obtain ⟨_, _⟩ := b; simp [en2_spec_l1Put] at h ⊢; simp_all; done) | (obtain ⟨_, _⟩ := a; obtain ⟨_, _⟩ := b; simp [en2_spec_l1Put] at h; obtain ⟨h1, h2⟩ := h; have h3 := List.append_inj h2.2.2 h1.2.1.1; simp_all)
noncomputable def cl_spec_l1Put {γ : Type} (ml_0 : List Int) (l0o : Nat) (l0n : Nat) (l0k : Nat) (n1 : Int) (k : Nat × List Int → Option γ) (k' : List Int × List Int → Option γ) : Option γ := cl2 en_spec_l1Put en2_spec_l1Put (call G) 121 [(.own (Id.l 0) none l0o l0n l0k), (I n1)] [(Id.l 0, some (rowB false false 1 cI ml_0))] k k'
theorem k_spec_l1Put {γ : Type} (ml_0 : List Int) (l0o : Nat) (l0n : Nat) (l0k : Nat) (n1 : Int) {v : Nat × List Int} (h : A_spec_l1Put ml_0 l0o l0n l0k n1 = some (en_spec_l1Put v)) (k : Nat × List Int → Option γ) (k' : List Int × List Int → Option γ) : cl_spec_l1Put ml_0 l0o l0n l0k n1 k k' = k v := cl2_a inj_spec_l1Put h k k'
theorem k2_spec_l1Put {γ : Type} (ml_0 : List Int) (l0o : Nat) (l0n : Nat) (l0k : Nat) (n1 : Int) {v : List Int × List Int} (h : A_spec_l1Put ml_0 l0o l0n l0k n1 = some (en2_spec_l1Put v)) (k : Nat × List Int → Option γ) (k' : List Int × List Int → Option γ) : cl_spec_l1Put ml_0 l0o l0n l0k n1 k k' = k' v := cl2_b inj2_spec_l1Put (fun a b e => by simp [en_spec_l1Put, en2_spec_l1Put] at e) h k k'
noncomputable def A_impl_terrainIndex_1 (ml_0f0 : ByteArray) (t0 : DTerrain) : Option R := call G 98 [(.agg (cTerrain t0)), (AV.ptr (Id.l 0) none 0)] [(Id.l 0, some ⟨false, false, false, 0, [(S ml_0f0)]⟩)]
def en_impl_terrainIndex_1 : Bool × ByteArray → R := fun (a : Bool × ByteArray) => (B a.fst, [(Id.l 0, some { arr := false, fr := false, nest := false, esz := 0, cells := [S a.snd] })])
theorem inj_impl_terrainIndex_1 : Inj en_impl_terrainIndex_1 := fun a b h => by
  first | (simpa [en_impl_terrainIndex_1, Prod.ext_iff, and_assoc] using h) | (obtain ⟨_, _⟩ := a; obtain ⟨_, _⟩ := b; simp [en_impl_terrainIndex_1] at h ⊢; simp_all; done) | (obtain ⟨_, _⟩ := a; obtain ⟨_, _⟩ := b; simp [en_impl_terrainIndex_1] at h; obtain ⟨h1, h2⟩ := h; have h3 := List.append_inj h2.2.2 h1.2.1.1; simp_all)
noncomputable def cl_impl_terrainIndex_1 {γ : Type} (ml_0f0 : ByteArray) (t0 : DTerrain) (k : Bool × ByteArray → Option γ) : Option γ := cl en_impl_terrainIndex_1 (call G) 98 [(.agg (cTerrain t0)), (AV.ptr (Id.l 0) none 0)] [(Id.l 0, some ⟨false, false, false, 0, [(S ml_0f0)]⟩)] k
theorem k_impl_terrainIndex_1 {γ : Type} (ml_0f0 : ByteArray) (t0 : DTerrain) {v : Bool × ByteArray} (h : A_impl_terrainIndex_1 ml_0f0 t0 = some (en_impl_terrainIndex_1 v)) (k : Bool × ByteArray → Option γ) : cl_impl_terrainIndex_1 ml_0f0 t0 k = k v := cl_eq inj_impl_terrainIndex_1 h k
noncomputable def A_impl_increasing (list0 : List Int) : Option R := call G 79 [(slc cI list0)] []
def en_impl_increasing : Bool → R := fun (a : Bool) => (B a, [])
theorem inj_impl_increasing : Inj en_impl_increasing := fun a b h => by
  first | (simpa [en_impl_increasing, Prod.ext_iff, and_assoc] using h) | (obtain _ := a; obtain _ := b; simp [en_impl_increasing] at h ⊢; simp_all; done) | (obtain _ := a; obtain _ := b; simp [en_impl_increasing] at h; obtain ⟨h1, h2⟩ := h; have h3 := List.append_inj h2.2.2 h1.2.1.1; simp_all)
noncomputable def cl_impl_increasing {γ : Type} (list0 : List Int) (k : Bool → Option γ) : Option γ := cl en_impl_increasing (call G) 79 [(slc cI list0)] [] k
theorem k_impl_increasing {γ : Type} (list0 : List Int) {v : Bool} (h : A_impl_increasing list0 = some (en_impl_increasing v)) (k : Bool → Option γ) : cl_impl_increasing list0 k = k v := cl_eq inj_impl_increasing h k
noncomputable def A_slices_ContainsFunc_int_of_impl_goodWorks_1 (ml_0 : DBoard) (s0 : List Int) : Option R := call G 53 [(slc cI s0), (.clo 59 [(AV.ptr (Id.l 0) none 0)])] [(Id.l 0, some ⟨false, false, false, 0, cBoard ml_0⟩)]
def en_slices_ContainsFunc_int_of_impl_goodWorks_1 : Bool × DBoard → R := fun (a : Bool × DBoard) => (B a.fst, [(Id.l 0, some { arr := false, fr := false, nest := false, esz := 0, cells := cBoard a.snd })])
theorem inj_slices_ContainsFunc_int_of_impl_goodWorks_1 : Inj en_slices_ContainsFunc_int_of_impl_goodWorks_1 := fun a b h => by
  first | (simpa [en_slices_ContainsFunc_int_of_impl_goodWorks_1, Prod.ext_iff, and_assoc] using h) | (obtain ⟨_, ⟨⟨_, _, _, _, _, _, _⟩, ⟨_, _, _, _, _⟩⟩⟩ := a; obtain ⟨_, ⟨⟨_, _, _, _, _, _, _⟩, ⟨_, _, _, _, _⟩⟩⟩ := b; simp [en_slices_ContainsFunc_int_of_impl_goodWorks_1] at h ⊢; simp_all; done) | (obtain ⟨_, ⟨⟨_, _, _, _, _, _, _⟩, ⟨_, _, _, _, _⟩⟩⟩ := a; obtain ⟨_, ⟨⟨_, _, _, _, _, _, _⟩, ⟨_, _, _, _, _⟩⟩⟩ := b; simp [en_slices_ContainsFunc_int_of_impl_goodWorks_1] at h; obtain ⟨h1, h2⟩ := h; have h3 := List.append_inj h2.2.2 h1.2.1.1; simp_all)
noncomputable def cl_slices_ContainsFunc_int_of_impl_goodWorks_1 {γ : Type} (ml_0 : DBoard) (s0 : List Int) (k : Bool × DBoard → Option γ) : Option γ := cl en_slices_ContainsFunc_int_of_impl_goodWorks_1 (call G) 53 [(slc cI s0), (.clo 59 [(AV.ptr (Id.l 0) none 0)])] [(Id.l 0, some ⟨false, false, false, 0, cBoard ml_0⟩)] k
theorem k_slices_ContainsFunc_int_of_impl_goodWorks_1 {γ : Type} (ml_0 : DBoard) (s0 : List Int) {v : Bool × DBoard} (h : A_slices_ContainsFunc_int_of_impl_goodWorks_1 ml_0 s0 = some (en_slices_ContainsFunc_int_of_impl_goodWorks_1 v)) (k : Bool × DBoard → Option γ) : cl_slices_ContainsFunc_int_of_impl_goodWorks_1 ml_0 s0 k = k v := cl_eq inj_slices_ContainsFunc_int_of_impl_goodWorks_1 h k
def en_spec_l1Cur_next : Int × Dl1Cur → R := fun (a : Int × Dl1Cur) => (I a.fst, [(Id.l 0, some { arr := false, fr := false, nest := false, esz := 0, cells := cl1Cur a.snd })])
theorem inj_spec_l1Cur_next : Inj en_spec_l1Cur_next := fun a b h => by
  first | (simpa [en_spec_l1Cur_next, Prod.ext_iff, and_assoc] using h) | (obtain ⟨_, _⟩ := a; obtain ⟨_, _⟩ := b; simp [en_spec_l1Cur_next] at h ⊢; simp_all; done) | (obtain ⟨_, _⟩ := a; obtain ⟨_, _⟩ := b; simp [en_spec_l1Cur_next] at h; obtain ⟨h1, h2⟩ := h; have h3 := List.append_inj h2.2.2 h1.2.1.1; simp_all)
noncomputable def cl_spec_l1Cur_next {γ : Type} (ml_0 : Dl1Cur) (k : Int × Dl1Cur → Option γ) : Option γ := cl en_spec_l1Cur_next (call G) 64 [(AV.ptr (Id.l 0) none 0)] [(Id.l 0, some ⟨false, false, false, 0, cl1Cur ml_0⟩)] k
theorem ko_spec_l1Cur_next {γ : Type} (ml_0 : Dl1Cur) {Q : Int × Dl1Cur → Prop} (h : ∃ v, A_spec_l1Cur_next ml_0 = some (en_spec_l1Cur_next v) ∧ Q v) {k : Int × Dl1Cur → Option γ} {Q' : γ → Prop} (hk : ∀ v, Q v → OK (k v) Q') : OK (cl_spec_l1Cur_next ml_0 k) Q' := cl_ok inj_spec_l1Cur_next h hk
noncomputable def A_slices_IndexFunc_int_of_impl_goodWorks_1 (ml_0 : DBoard) (s0 : List Int) : Option R := call G 81 [(slc cI s0), (.clo 59 [(AV.ptr (Id.l 0) none 0)])] [(Id.l 0, some ⟨false, false, false, 0, cBoard ml_0⟩)]
def en_slices_IndexFunc_int_of_impl_goodWorks_1 : Int × DBoard → R := fun (a : Int × DBoard) => (I a.fst, [(Id.l 0, some { arr := false, fr := false, nest := false, esz := 0, cells := cBoard a.snd })])
theorem inj_slices_IndexFunc_int_of_impl_goodWorks_1 : Inj en_slices_IndexFunc_int_of_impl_goodWorks_1 := fun a b h => by
  first | (simpa [en_slices_IndexFunc_int_of_impl_goodWorks_1, Prod.ext_iff, and_assoc] using h) | (obtain ⟨_, ⟨⟨_, _, _, _, _, _, _⟩, ⟨_, _, _, _, _⟩⟩⟩ := a; obtain ⟨_, ⟨⟨_, _, _, _, _, _, _⟩, ⟨_, _, _, _, _⟩⟩⟩ := b; simp [en_slices_IndexFunc_int_of_impl_goodWorks_1] at h ⊢; simp_all; done) | (obtain ⟨_, ⟨⟨_, _, _, _, _, _, _⟩, ⟨_, _, _, _, _⟩⟩⟩ := a; obtain ⟨_, ⟨⟨_, _, _, _, _, _, _⟩, ⟨_, _, _, _, _⟩⟩⟩ := b; simp [en_slices_IndexFunc_int_of_impl_goodWorks_1] at h; obtain ⟨h1, h2⟩ := h; have h3 := List.append_inj h2.2.2 h1.2.1.1; simp_all)
noncomputable def cl_slices_IndexFunc_int_of_impl_goodWorks_1 {γ : Type} (ml_0 : DBoard) (s0 : List Int) (k : Int × DBoard → Option γ) : Option γ := cl en_slices_IndexFunc_int_of_impl_goodWorks_1 (call G) 81 [(slc cI s0), (.clo 59 [(AV.ptr (Id.l 0) none 0)])] [(Id.l 0, some ⟨false, false, false, 0, cBoard ml_0⟩)] k
theorem k_slices_IndexFunc_int_of_impl_goodWorks_1 {γ : Type} (ml_0 : DBoard) (s0 : List Int) {v : Int × DBoard} (h : A_slices_IndexFunc_int_of_impl_goodWorks_1 ml_0 s0 = some (en_slices_IndexFunc_int_of_impl_goodWorks_1 v)) (k : Int × DBoard → Option γ) : cl_slices_IndexFunc_int_of_impl_goodWorks_1 ml_0 s0 k = k v := cl_eq inj_slices_IndexFunc_int_of_impl_goodWorks_1 h k
noncomputable def A_impl_goodWorks_1 (ml_0 : DBoard) (k0 : Int) : Option R := call G 59 [(I k0), (AV.ptr (Id.l 0) none 0)] [(Id.l 0, some ⟨false, false, false, 0, cBoard ml_0⟩)]
def en_impl_goodWorks_1 : Bool × DBoard → R := fun (a : Bool × DBoard) => (B a.fst, [(Id.l 0, some { arr := false, fr := false, nest := false, esz := 0, cells := cBoard a.snd })])
theorem inj_impl_goodWorks_1 : Inj en_impl_goodWorks_1 := fun a b h => by
  first | (simpa [en_impl_goodWorks_1, Prod.ext_iff, and_assoc] using h) | (obtain ⟨_, ⟨⟨_, _, _, _, _, _, _⟩, ⟨_, _, _, _, _⟩⟩⟩ := a; obtain ⟨_, ⟨⟨_, _, _, _, _, _, _⟩, ⟨_, _, _, _, _⟩⟩⟩ := b; simp [en_impl_goodWorks_1] at h ⊢; simp_all; done) | (obtain ⟨_, ⟨⟨_, _, _, _, _, _, _⟩, ⟨_, _, _, _, _⟩⟩⟩ := a; obtain ⟨_, ⟨⟨_, _, _, _, _, _, _⟩, ⟨_, _, _, _, _⟩⟩⟩ := b; simp [en_impl_goodWorks_1] at h; obtain ⟨h1, h2⟩ := h; have h3 := List.append_inj h2.2.2 h1.2.1.1; simp_all)
noncomputable def cl_impl_goodWorks_1 {γ : Type} (ml_0 : DBoard) (k0 : Int) (k : Bool × DBoard → Option γ) : Option γ := cl en_impl_goodWorks_1 (call G) 59 [(I k0), (AV.ptr (Id.l 0) none 0)] [(Id.l 0, some ⟨false, false, false, 0, cBoard ml_0⟩)] k
theorem k_impl_goodWorks_1 {γ : Type} (ml_0 : DBoard) (k0 : Int) {v : Bool × DBoard} (h : A_impl_goodWorks_1 ml_0 k0 = some (en_impl_goodWorks_1 v)) (k : Bool × DBoard → Option γ) : cl_impl_goodWorks_1 ml_0 k0 k = k v := cl_eq inj_impl_goodWorks_1 h k
end Go.Ev
