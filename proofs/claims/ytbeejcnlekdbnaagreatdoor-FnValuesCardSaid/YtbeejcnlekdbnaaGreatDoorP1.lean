/-
 P1: one of the texts behind a proof of laws.FnValues: how each function that is reached is called; what its result is
 Its conditions: none of its own.
-/
import Derived.Test.YtbeejcnlekdbnaaGreatDoorEd
set_option maxRecDepth 100000
set_option linter.unusedVariables false
set_option linter.unusedSectionVars false
set_option linter.unusedSimpArgs false
set_option linter.unnecessarySimpa false
namespace Go.Ev
open Go Go.Proofs
variable [Inhabited Known]
noncomputable def L_sc_anyState_L17 (a : List DUnit) (f : Dl1Cur) (b c d e : Int) : Option R := lpK G T 94 Tryz.f94 [1, 1, 1, 1, 0, 1, 0, 1, 1, 1, 1, 1, 1, 1, 1, 1, 1, 1, 0, 0] ((AV.ptr (Id.l 0) none 0) :: js 3 ((AV.ptr (Id.h 4 0) none 0) :: (AV.ptr (Id.h 5 0) none 0) :: js 85 [])) [(Id.l 0, bl (cl1Cur f)), (Id.h 4 0, some ⟨false, true, false, 0, [(I b), (I c), .emp]⟩), (Id.h 5 0, some ⟨false, true, false, 0, [(I d), (I e), (.own (Id.h 5 1) none 0 a.length a.length)]⟩), (Id.h 5 1, some (rowB true false 4 cUnit a))]
noncomputable def L_impl_IsRules_L4 (a : DRules) (b : List DTerrain) (c d : Int) : Option R := lpK G T 127 Tryz.f127 [1, 1, 0, 1, 0] (js 1 ((AV.ptr (Id.h 1 0) none 0) :: js 18 ((slc cTerrain b) :: (I c) :: (I d) :: js 64 []))) [(Id.h 1 0, some ⟨false, true, false, 0, cRules a⟩)]
noncomputable def L_spec_zExerts_L5 (a : DBoard) (b : DUnit) (d c : Int) : Option R := lpK G T 173 Tryz.f173 [1, 1, 1, 0, 1, 0] (js 3 ((I d) :: (AV.ptr (Id.h 4 0) none 0) :: js 4 ((AV.ptr (Id.h 9 0) none 0) :: (I c) :: js 54 []))) [(Id.h 4 0, some ⟨false, true, false, 0, cBoard a⟩), (Id.h 9 0, some ⟨false, true, false, 0, cUnit b⟩)]
noncomputable def L_spec_wGood_L4 (a : List (List Int)) (b c : Int) : Option R := lpK G T 63 Tryz.f63 [1, 1, 0, 1, 0] (js 10 ((slc cLI a) :: (I b) :: (I c) :: js 26 [])) []
noncomputable def L_spec_sAt_L3 (a : List Int) (f b : Int) (c : List DUnit) (d e : Int) : Option R := lpK G T 66 Tryz.f66 [1, 1, 0, 1, 0] (js 1 ((I f) :: (I b) :: js 4 ((.own (Id.h 7 0) none 0 a.length a.length) :: js 3 ((slc cUnit c) :: (I d) :: (I e) :: js 20 [])))) [(Id.h 7 0, some (rowB true false 1 cI a))]
noncomputable def L_impl_unitsOf_L3 (a : List Int) (b : Int) (c : List DUnit) (d e : Int) : Option R := lpK G T 35 Tryz.f35 [1, 1, 0, 1, 0] (js 1 ((I b) :: js 3 ((.own (Id.h 5 0) none 0 a.length a.length) :: js 4 ((slc cUnit c) :: (I d) :: (I e) :: js 19 [])))) [(Id.h 5 0, some (rowB true false 1 cI a))]
noncomputable def L_spec_uSide_L3 (a : List Int) (c : DBoard) (d : DState) (b : List Int) (e f g : Int) : Option R := lpK G T 60 Tryz.f60 [1, 1, 0, 1, 0] (js 3 ((slc cI b) :: (AV.ptr (Id.h 4 0) none 0) :: (AV.ptr (Id.h 5 0) none 0) :: js 3 ((I e) :: js 4 ((.own (Id.h 14 0) none 0 a.length a.length) :: (I f) :: (I g) :: js 16 [])))) [(Id.h 4 0, some ⟨false, true, false, 0, cBoard c⟩), (Id.h 5 0, some ⟨false, true, false, 0, cState d⟩), (Id.h 14 0, some (rowB true false 1 cI a))]
noncomputable def L_spec_zMap_L3 (a : List Int) (b : DBoard) (c : DState) (d : Int) : Option R := lpK G T 80 Tryz.f80 [1, 1, 0, 1, 0] (js 2 ((AV.ptr (Id.h 2 0) none 0) :: (AV.ptr (Id.h 3 0) none 0) :: js 1 ((.own (Id.h 5 0) none 0 a.length a.length) :: (I d) :: js 15 []))) [(Id.h 2 0, some ⟨false, true, false, 0, cBoard b⟩), (Id.h 3 0, some ⟨false, true, false, 0, cState c⟩), (Id.h 5 0, some (rowB true false 1 cI a))]
noncomputable def L_impl_ownerOf_L2 (b : Int) (c : List DUnit) (d a : Int) : Option R := lpK G T 39 Tryz.f39 [1, 0, 1, 0] (js 1 ((I b) :: js 6 ((slc cUnit c) :: (I d) :: (I a) :: js 10 []))) []
noncomputable def L_impl_IsRules_L10 (a : DRules) (b : List DKind) (c d : Int) : Option R := lpK G T 127 Tryz.f127 [1, 1, 1, 0, 1, 0] (js 1 ((AV.ptr (Id.h 1 0) none 0) :: js 42 ((slc cKind b) :: (I c) :: (I d) :: js 40 []))) [(Id.h 1 0, some ⟨false, true, false, 0, cRules a⟩)]
noncomputable def L_sc_close_L6 (a : List Int) (y : List DUnit) (z : Dl1Cur) (e f g h i j k l m : Int) (n : List DTerrain) (o : List DKind) (p q r s t u v w x : Int) (b c d : Nat) (k6 : Int) : Option R := lpK G T 50 Tryz.f50 [1, 1, 1, 1, 0, 1, 0] ((AV.ptr (Id.l 0) none 0) :: js 1 ((AV.ptr (Id.h 2 0) none 0) :: (AV.ptr (Id.h 3 0) none 0) :: (AV.ptr (Id.h 4 0) none 0) :: (AV.ptr (Id.h 5 0) none 0) :: (I k6) :: js 57 [])) [(Id.l 0, bl (cl1Cur z)), (Id.h 2 0, some ⟨false, true, false, 0, [.emp, .emp, (I e), (I f), (I g), (I h), (I i), (I j), (I k), .emp, .emp, .emp]⟩), (Id.h 3 0, some ⟨false, true, false, 0, [(I l), (I m), .emp]⟩), (Id.h 4 0, some ⟨false, true, false, 0, [(slc cTerrain n), (slc cKind o), (I p), (I q), (I r), (I s), (I t), (I u), (I v), (.own (Id.h 4 1) none 0 a.length a.length), .emp, .emp]⟩), (Id.h 4 1, some (rowB true false 1 cI a)), (Id.h 5 0, some ⟨false, true, false, 0, [(I w), (I x), (.own (Id.h 5 1) none b c d)]⟩), (Id.h 5 1, some (rowB true false 4 cUnit y))]
noncomputable def L_sc_close_L6_1 (o : List DUnit) (q : Dl1Cur) (d e f g h i j k l : Int) (p : DBoard) (m n : Int) (a b c : Nat) (r : Int) : Option R := lpK G T 50 Tryz.f50 [1, 1, 1, 1, 0, 1, 0] ((AV.ptr (Id.l 0) none 0) :: js 1 ((AV.ptr (Id.h 2 0) none 0) :: (AV.ptr (Id.h 3 0) none 0) :: (AV.ptr (Id.h 4 0) none 0) :: (AV.ptr (Id.h 5 0) none 0) :: (I r) :: js 57 [])) [(Id.l 0, bl (cl1Cur q)), (Id.h 2 0, some ⟨false, true, false, 0, [.emp, .emp, (I d), (I e), (I f), (I g), (I h), (I i), (I j), .emp, .emp, .emp]⟩), (Id.h 3 0, some ⟨false, true, false, 0, [(I k), (I l), .emp]⟩), (Id.h 4 0, some ⟨false, true, false, 0, cBoard p⟩), (Id.h 5 0, some ⟨false, true, false, 0, [(I m), (I n), (.own (Id.h 5 1) none a b c)]⟩), (Id.h 5 1, some (rowB true false 4 cUnit o))]
noncomputable def L_sc_moved_L2 (f : Dl1Cur) (c : DBoard) (d : DState) (a b e g : Int) : Option R := lpK G T 30 Tryz.f30 [1, 0, 1, 0] ((AV.ptr (Id.l 0) none 0) :: js 2 ((I e) :: js 1 ((AV.ptr (Id.h 5 0) none 0) :: (AV.ptr (Id.h 6 0) none 0) :: js 1 ((AV.ptr (Id.h 8 0) none 0) :: (I g) :: js 38 [])))) [(Id.l 0, bl (cl1Cur f)), (Id.h 5 0, some ⟨false, true, false, 0, cBoard c⟩), (Id.h 6 0, some ⟨false, true, false, 0, cState d⟩), (Id.h 8 0, some ⟨false, true, false, 0, [(I a), (I b), .emp]⟩)]
noncomputable def L_slices_Index_int_L2 (a : List Int) (b c d : Int) : Option R := lpK G T 148 Tryz.f148 [1, 0, 1, 0] ((slc cI a) :: (I b) :: js 5 ((I c) :: (I d) :: js 10 [])) []
noncomputable def L_sc_moved_L2_1 (h : List DUnit) (k : Dl1Cur) (i : DBoard) (d e : Int) (a b c : Nat) (f g j l : Int) : Option R := lpK G T 30 Tryz.f30 [1, 0, 1, 0] ((AV.ptr (Id.l 0) none 0) :: js 2 ((I j) :: js 1 ((AV.ptr (Id.h 5 0) none 0) :: (AV.ptr (Id.h 6 0) none 0) :: js 1 ((AV.ptr (Id.h 8 0) none 0) :: (I l) :: js 38 [])))) [(Id.l 0, bl (cl1Cur k)), (Id.h 5 0, some ⟨false, true, false, 0, cBoard i⟩), (Id.h 6 0, some ⟨false, true, false, 0, [(I d), (I e), (.own (Id.h 6 1) none a b c)]⟩), (Id.h 6 1, some (rowB true false 4 cUnit h)), (Id.h 8 0, some ⟨false, true, false, 0, [(I f), (I g), .emp]⟩)]
noncomputable def L_xf_impl_IsBoard_1_L2 (a : DBoard) (b : List Int) (c d : Int) : Option R := lpK G T 73 Tryz.f73 [1, 0, 1, 0] ((slc cI b) :: (.clo 129 [(AV.ptr (Id.l 0) none 0)]) :: js 5 ((I c) :: (I d) :: js 10 [])) [(Id.l 0, bl (cBoard a))]
noncomputable def L_xf_impl_areSources_1_L2 (a : DBoard) (b : List Int) (c d : Int) : Option R := lpK G T 73 Tryz.f73 [1, 0, 1, 0] ((slc cI b) :: (.clo 134 [(AV.ptr (Id.l 0) none 0)]) :: js 5 ((I c) :: (I d) :: js 10 [])) [(Id.l 0, bl (cBoard a))]
noncomputable def L_spec_rGood_L4 (a : DRules) (b : List DTerrain) (c d : Int) : Option R := lpK G T 102 Tryz.f102 [1, 1, 0, 1, 0] (js 1 ((AV.ptr (Id.h 1 0) none 0) :: js 18 ((slc cTerrain b) :: (I c) :: (I d) :: js 114 []))) [(Id.h 1 0, some ⟨false, true, false, 0, cRules a⟩)]
noncomputable def L_impl_IsMap_L4 (a : DMap) (b : List Int) (c d : Int) : Option R := lpK G T 128 Tryz.f128 [1, 1, 0, 1, 0] (js 1 ((AV.ptr (Id.h 1 0) none 0) :: js 29 ((slc cI b) :: (I c) :: (I d) :: js 32 []))) [(Id.h 1 0, some ⟨false, true, false, 0, cMap a⟩)]
noncomputable def L_spec_MobilityOf_L8 (a : DBoard) (b : DUnit) (f : Int) (c : List Int) (d e : Int) : Option R := lpK G T 18 Tryz.f18 [1, 1, 1, 1, 1, 0, 1, 0] (js 3 ((AV.ptr (Id.h 3 0) none 0) :: js 4 ((AV.ptr (Id.h 8 0) none 0) :: (I f) :: js 22 ((slc cI c) :: (I d) :: (I e) :: js 17 [])))) [(Id.h 3 0, some ⟨false, true, false, 0, cBoard a⟩), (Id.h 8 0, some ⟨false, true, false, 0, cUnit b⟩)]
noncomputable def L_impl_IsClimate_L4 (a : List (List Int)) (b c : Int) : Option R := lpK G T 97 Tryz.f97 [1, 1, 0, 1, 0] (js 12 ((slc cLI a) :: (I b) :: (I c) :: js 22 [])) []
noncomputable def L_spec_l1Rising_L2 (e : List Int) (a b : Int) (f : List Int) (c d : Int) : Option R := lpK G T 106 Tryz.f106 [1, 0, 1, 0] ((slc cI e) :: (I a) :: (I b) :: js 6 ((slc cI f) :: (I c) :: (I d) :: js 23 [])) []
noncomputable def L_impl_neighboursOn_L3 (a : List Int) (b : DMap) (c d : Int) : Option R := lpK G T 36 Tryz.f36 [1, 1, 0, 1, 0] (js 1 ((I c) :: (AV.ptr (Id.h 2 0) none 0) :: js 2 ((.own (Id.h 5 0) none 0 a.length a.length) :: js 3 ((I d) :: js 14 [])))) [(Id.h 2 0, some ⟨false, true, false, 0, cMap b⟩), (Id.h 5 0, some (rowB true false 1 cI a))]
noncomputable def L_spec_uGround_L3 (a e : Int) (b : List Int) (c d : Int) : Option R := lpK G T 45 Tryz.f45 [1, 1, 0, 1, 0] (js 2 ((I a) :: js 4 ((I e) :: js 4 ((slc cI b) :: (I c) :: (I d) :: js 10 [])))) []
noncomputable def L_spec_sOwner_L2 (b : Int) (c : List DUnit) (d a : Int) : Option R := lpK G T 43 Tryz.f43 [1, 0, 1, 0] (js 1 ((I b) :: js 6 ((slc cUnit c) :: (I d) :: (I a) :: js 10 []))) []
noncomputable def L_impl_increasing_L2 (a : List Int) (b : Int) : Option R := lpK G T 133 Tryz.f133 [1, 0, 1, 0] ((slc cI a) :: js 2 ((I b) :: js 16 [])) []
noncomputable def L_spec_rGood_L10 (a : DRules) (b : List DKind) (c d : Int) : Option R := lpK G T 102 Tryz.f102 [1, 1, 1, 0, 1, 0] (js 1 ((AV.ptr (Id.h 1 0) none 0) :: js 67 ((slc cKind b) :: (I c) :: (I d) :: js 65 []))) [(Id.h 1 0, some ⟨false, true, false, 0, cRules a⟩)]
noncomputable def L_impl_IsMap_L10 (a : List (List Int)) (b : DMap) (c d : Int) : Option R := lpK G T 128 Tryz.f128 [1, 1, 1, 0, 1, 0] (js 1 ((AV.ptr (Id.h 1 0) none 0) :: js 43 ((.own (Id.h 45 0) none 0 a.length a.length) :: (I c) :: (I d) :: js 18 []))) [(Id.h 1 0, some ⟨false, true, false, 0, cMap b⟩), (Id.h 45 0, some (rowB true false 1 cLI a))]
noncomputable def L_impl_IsClimate_L9 (a : List (List Int)) (b c : Int) (d : List Int) (e f : Int) : Option R := lpK G T 97 Tryz.f97 [1, 1, 0, 1, 0, 0, 1, 1, 0, 0, 1, 1, 1, 0] (js 12 ((slc cLI a) :: (I b) :: (I c) :: js 11 ((slc cI d) :: (I e) :: (I f) :: js 8 []))) []
noncomputable def L_impl_IsMap_L15 (a : List (List Int)) (b : DMap) (c d : Int) (e : List Int) (f g : Int) : Option R := lpK G T 128 Tryz.f128 [1, 1, 1, 0, 1, 0, 0, 1, 1, 0, 0, 1, 1, 1, 0] (js 1 ((AV.ptr (Id.h 1 0) none 0) :: js 43 ((.own (Id.h 45 0) none 0 a.length a.length) :: (I c) :: (I d) :: js 6 ((slc cI e) :: (I f) :: (I g) :: js 9 [])))) [(Id.h 1 0, some ⟨false, true, false, 0, cMap b⟩), (Id.h 45 0, some (rowB true false 1 cLI a))]
noncomputable def L_xf_impl_goodTerrain_1_L2 (a : List Int) (b c : Int) : Option R := lpK G T 73 Tryz.f73 [1, 0, 1, 0] ((slc cI a) :: (.clo 164 []) :: js 5 ((I b) :: (I c) :: js 10 [])) []
noncomputable def L_spec_jFar_L3 (b : List Int) (c : DMap) (d : List Bool) (a : List Int) (e f g : Nat) (h i : Int) : Option R := lpK G T 160 Tryz.f160 [1, 1, 0, 1, 0] (js 1 ((slc cB d) :: (slc cI a) :: (AV.ptr (Id.h 3 0) none 0) :: js 3 ((.own (Id.h 7 0) none e f g) :: js 11 ((I h) :: (I i) :: js 72 [])))) [(Id.h 3 0, some ⟨false, true, false, 0, cMap c⟩), (Id.h 7 0, some (rowB true false 1 cI b))]
noncomputable def L_impl_spread_L3 (b a : List Int) (c : DMap) (d : List Bool) (e : List Int) (f g h : Nat) (i j : Int) : Option R := lpK G T 169 Tryz.f169 [1, 1, 0, 1, 0] (js 1 ((slc cB d) :: (slc cI e) :: (AV.ptr (Id.h 3 0) none 0) :: js 3 ((.own (Id.h 7 0) none f g h) :: (.own (Id.h 8 0) none 0 a.length a.length) :: js 11 ((I i) :: (I j) :: js 69 [])))) [(Id.h 3 0, some ⟨false, true, false, 0, cMap c⟩), (Id.h 7 0, some (rowB true false 1 cI b)), (Id.h 8 0, some (rowB true false 1 cI a))]
noncomputable def L_spec_jFar_L9 (b a : List Int) (c : DMap) (d : List Bool) (e f g : Nat) (h : List Int) (i j : Int) : Option R := lpK G T 160 Tryz.f160 [1, 1, 1, 1, 0, 1, 0] (js 1 ((slc cB d) :: js 1 ((AV.ptr (Id.h 3 0) none 0) :: js 3 ((.own (Id.h 7 0) none e f g) :: js 1 ((.own (Id.h 9 0) none 0 a.length a.length) :: js 17 ((slc cI h) :: (I i) :: (I j) :: js 63 [])))))) [(Id.h 3 0, some ⟨false, true, false, 0, cMap c⟩), (Id.h 7 0, some (rowB true false 1 cI b)), (Id.h 9 0, some (rowB true false 1 cI a))]
noncomputable def L_impl_spread_L8 (b a : List Int) (c : DMap) (d : List Bool) (e f g : Nat) (h : List Int) (i j : Int) : Option R := lpK G T 169 Tryz.f169 [1, 1, 1, 0, 1, 0] (js 1 ((slc cB d) :: js 1 ((AV.ptr (Id.h 3 0) none 0) :: js 3 ((.own (Id.h 7 0) none e f g) :: (.own (Id.h 8 0) none 0 a.length a.length) :: js 19 ((slc cI h) :: (I i) :: (I j) :: js 60 []))))) [(Id.h 3 0, some ⟨false, true, false, 0, cMap c⟩), (Id.h 7 0, some (rowB true false 1 cI b)), (Id.h 8 0, some (rowB true false 1 cI a))]
noncomputable def L_spec_jFar_L16 (b a : List Int) (c : DMap) (d : List Bool) (e f g : Nat) (h : Int) : Option R := lpK G T 160 Tryz.f160 [1, 1, 1, 1, 1, 0, 1, 0] (js 1 ((slc cB d) :: js 1 ((AV.ptr (Id.h 3 0) none 0) :: js 3 ((.own (Id.h 7 0) none e f g) :: js 1 ((.own (Id.h 9 0) none 0 a.length a.length) :: js 2 ((I h) :: js 80 [])))))) [(Id.h 3 0, some ⟨false, true, false, 0, cMap c⟩), (Id.h 7 0, some (rowB true false 1 cI b)), (Id.h 9 0, some (rowB true false 1 cI a))]
noncomputable def L_impl_spread_L15 (b a : List Int) (c : DMap) (d : List Bool) (e f g : Nat) (h : Int) : Option R := lpK G T 169 Tryz.f169 [1, 1, 1, 1, 0, 1, 0] (js 1 ((slc cB d) :: js 1 ((AV.ptr (Id.h 3 0) none 0) :: js 3 ((.own (Id.h 7 0) none e f g) :: (.own (Id.h 8 0) none 0 a.length a.length) :: js 3 ((I h) :: js 78 []))))) [(Id.h 3 0, some ⟨false, true, false, 0, cMap c⟩), (Id.h 7 0, some (rowB true false 1 cI b)), (Id.h 8 0, some (rowB true false 1 cI a))]
noncomputable def L_spec_jFar_L19 (b a : List Int) (c : DMap) (d : List Bool) (e f g : Nat) (h i : Int) : Option R := lpK G T 160 Tryz.f160 [1, 1, 1, 1, 1, 0, 1, 0, 0, 1, 0, 0, 1, 0] (js 1 ((slc cB d) :: js 1 ((AV.ptr (Id.h 3 0) none 0) :: js 3 ((.own (Id.h 7 0) none e f g) :: js 1 ((.own (Id.h 9 0) none 0 a.length a.length) :: js 2 ((I h) :: (I i) :: js 79 [])))))) [(Id.h 3 0, some ⟨false, true, false, 0, cMap c⟩), (Id.h 7 0, some (rowB true false 1 cI b)), (Id.h 9 0, some (rowB true false 1 cI a))]
noncomputable def L_impl_spread_L18 (b a : List Int) (c : DMap) (d : List Bool) (e f g : Nat) (h : Int) (i : List Int) (j k : Int) : Option R := lpK G T 169 Tryz.f169 [1, 1, 1, 1, 0, 1, 0, 0, 1, 0, 0, 1, 0] (js 1 ((slc cB d) :: js 1 ((AV.ptr (Id.h 3 0) none 0) :: js 3 ((.own (Id.h 7 0) none e f g) :: (.own (Id.h 8 0) none 0 a.length a.length) :: js 3 ((I h) :: js 44 ((slc cI i) :: (I j) :: (I k) :: js 31 [])))))) [(Id.h 3 0, some ⟨false, true, false, 0, cMap c⟩), (Id.h 7 0, some (rowB true false 1 cI b)), (Id.h 8 0, some (rowB true false 1 cI a))]
noncomputable def L_spec_kGood_L4 (a : DCombatTable) (b : List DOdds) (c d : Int) : Option R := lpK G T 62 Tryz.f62 [1, 1, 0, 1, 0] (js 1 ((AV.ptr (Id.h 1 0) none 0) :: js 26 ((slc cOdds b) :: (I c) :: (I d) :: js 59 []))) [(Id.h 1 0, some ⟨false, true, false, 0, cCombatTable a⟩)]
noncomputable def L_spec_FrontUnits_L5 (a b : List Int) (c : DBoard) (d : DState) (e f g : Int) : Option R := lpK G T 13 Tryz.f13 [1, 1, 1, 0, 1, 0] (js 2 ((I e) :: (AV.ptr (Id.h 3 0) none 0) :: (AV.ptr (Id.h 4 0) none 0) :: js 3 ((.own (Id.h 8 0) none 0 b.length b.length) :: js 12 ((.own (Id.h 21 0) none 0 a.length a.length) :: (I f) :: (I g) :: js 37 [])))) [(Id.h 3 0, some ⟨false, true, false, 0, cBoard c⟩), (Id.h 4 0, some ⟨false, true, false, 0, cState d⟩), (Id.h 21 0, some (rowB true false 1 cI a)), (Id.h 8 0, some (rowB true false 1 cI b))]
noncomputable def L_sc_climate_L3 (a : List (List Int)) (b : Dl1Cur) (c : Int) : Option R := lpK G T 90 Tryz.f90 [1, 1, 0, 1, 0] ((AV.ptr (Id.l 0) none 0) :: js 1 ((AV.ptr (Id.h 2 0) none 0) :: (AV.ptr (Id.h 3 0) none 0) :: (I c) :: js 41 [])) [(Id.l 0, bl (cl1Cur b)), (Id.h 2 0, some ⟨false, true, false, 0, [.emp]⟩), (Id.h 3 0, some ⟨false, true, false, 0, [(.own (Id.h 3 1) none 0 a.length a.length)]⟩), (Id.h 3 1, some (rowB true true 1 cLIN a))]
noncomputable def L_impl_FrontUnits_L5 (a : List Int) (b : DBoard) (c : DState) (d : Int) (e : List Int) (f g : Int) : Option R := lpK G T 12 Tryz.f12 [1, 1, 1, 0, 1, 0] (js 3 ((AV.ptr (Id.h 3 0) none 0) :: (AV.ptr (Id.h 4 0) none 0) :: (AV.ptr (Id.h 5 0) none 0) :: js 2 ((.own (Id.h 8 0) none 0 a.length a.length) :: js 11 ((slc cI e) :: (I f) :: (I g) :: js 21 [])))) [(Id.h 3 0, some ⟨false, true, false, 0, cBoard b⟩), (Id.h 4 0, some ⟨false, true, false, 0, cState c⟩), (Id.h 5 0, some ⟨false, true, false, 0, cI d⟩), (Id.h 8 0, some (rowB true false 1 cI a))]
noncomputable def L_spec_zSources_L3 (a : List Int) (b : DBoard) (c : DState) (d h : Int) (e : List DUnit) (f g : Int) : Option R := lpK G T 162 Tryz.f162 [1, 1, 0, 1, 0] (js 2 ((I d) :: (I h) :: (AV.ptr (Id.h 4 0) none 0) :: (AV.ptr (Id.h 5 0) none 0) :: js 3 ((.own (Id.h 9 0) none 0 a.length a.length) :: js 3 ((slc cUnit e) :: (I f) :: (I g) :: js 21 [])))) [(Id.h 4 0, some ⟨false, true, false, 0, cBoard b⟩), (Id.h 5 0, some ⟨false, true, false, 0, cState c⟩), (Id.h 9 0, some (rowB true false 1 cI a))]
noncomputable def L_laws_sameInts_L4 (c d : List Int) (a b : Int) : Option R := lpK G T 19 Tryz.f19 [1, 1, 0, 1, 0] ((slc cI c) :: (slc cI d) :: js 10 ((I a) :: (I b) :: js 12 [])) []
noncomputable def L_impl_isName_L2 (a : ByteArray) (b : Int) : Option R := lpK G T 163 Tryz.f163 [1, 0, 1, 0] ((S a) :: js 2 ((I b) :: js 19 [])) []
noncomputable def L_spec_rName_L2 (a : ByteArray) (b : Int) : Option R := lpK G T 138 Tryz.f138 [1, 0, 1, 0] ((S a) :: js 2 ((I b) :: js 19 [])) []
noncomputable def L_impl_sumOf_L3 (a : Int) (b : List Int) (c d : Int) : Option R := lpK G T 132 Tryz.f132 [1, 1, 0, 1, 0] (js 3 ((I a) :: js 2 ((slc cI b) :: (I c) :: (I d) :: js 8 []))) []
noncomputable def L_sc_rules_L5 (a : List DTerrain) (p : List DKind) (b : List ByteArray) (q : Dl1Cur) (f g h i j : Int) (c d e : Nat) (k l m n o r : Int) : Option R := lpK G T 120 Tryz.f120 [1, 1, 1, 1, 0, 1, 0] ((AV.ptr (Id.l 0) none 0) :: js 1 ((AV.ptr (Id.h 2 0) none 0) :: js 1 ((AV.ptr (Id.h 4 0) none 0) :: (.own (Id.h 5 0) none 0 b.length b.length) :: (I r) :: js 108 []))) [(Id.l 0, bl (cl1Cur q)), (Id.h 2 0, some ⟨false, true, false, 0, [.emp, .emp, (I f), (I g), (I h), (I i), (I j)]⟩), (Id.h 4 0, some ⟨false, true, false, 0, [(.own (Id.h 4 1) none 0 a.length a.length), (.own (Id.h 4 2) none c d e), (I k), (I l), (I m), (I n), (I o)]⟩), (Id.h 4 1, some (rowB true true 5 cTerrainN a)), (Id.h 4 2, some (rowB true false 6 cKind p)), (Id.h 5 0, some (rowB true false 1 cS b))]
noncomputable def L_spec_kGood_L12 (a : DCombatTable) (b : List (List Int)) (c d : Int) : Option R := lpK G T 62 Tryz.f62 [1, 1, 1, 0, 1, 0] (js 1 ((AV.ptr (Id.h 1 0) none 0) :: js 70 ((slc cLI b) :: (I c) :: (I d) :: js 15 []))) [(Id.h 1 0, some ⟨false, true, false, 0, cCombatTable a⟩)]
noncomputable def L_impl_goodState_L5 (d : List A2I) (e : DBoard) (a b c : Nat) (f : List DUnit) (g h : Int) : Option R := lpK G T 31 Tryz.f31 [1, 1, 1, 0, 1, 0] (js 2 ((AV.ptr (Id.h 2 0) none 0) :: js 2 ((.own (Id.h 5 0) none a b c) :: js 25 ((slc cUnit f) :: (I g) :: (I h) :: js 46 [])))) [(Id.h 2 0, some ⟨false, true, false, 0, cBoard e⟩), (Id.h 5 0, some (rowB true false 2 cA2I d))]
noncomputable def L_sc_state_L3 (h : List DUnit) (j : Dl1Cur) (i : DBoard) (d e f g : Int) (a b c : Nat) (k : Int) : Option R := lpK G T 89 Tryz.f89 [1, 1, 0, 1, 0] ((AV.ptr (Id.l 0) none 0) :: js 2 ((AV.ptr (Id.h 3 0) none 0) :: (AV.ptr (Id.h 4 0) none 0) :: (AV.ptr (Id.h 5 0) none 0) :: (I k) :: js 66 [])) [(Id.l 0, bl (cl1Cur j)), (Id.h 3 0, some ⟨false, true, false, 0, cBoard i⟩), (Id.h 4 0, some ⟨false, true, false, 0, [(I d), (I e), .emp]⟩), (Id.h 5 0, some ⟨false, true, false, 0, [(I f), (I g), (.own (Id.h 5 1) none a b c)]⟩), (Id.h 5 1, some (rowB true false 4 cUnit h))]
noncomputable def L_spec_FrontUnits_L9 (b a : List Int) (c : DBoard) (d : DState) (f g : Int) (e : Bool) (h i j : Int) : Option R := lpK G T 13 Tryz.f13 [1, 1, 1, 0, 1, 0, 0, 1, 1, 0, 0, 1, 1, 0, 1, 0] (js 2 ((I f) :: (AV.ptr (Id.h 3 0) none 0) :: (AV.ptr (Id.h 4 0) none 0) :: js 3 ((.own (Id.h 8 0) none 0 b.length b.length) :: js 1 ((I g) :: (B e) :: (I h) :: js 8 ((.own (Id.h 21 0) none 0 a.length a.length) :: (I i) :: (I j) :: js 37 []))))) [(Id.h 3 0, some ⟨false, true, false, 0, cBoard c⟩), (Id.h 4 0, some ⟨false, true, false, 0, cState d⟩), (Id.h 8 0, some (rowB true false 1 cI b)), (Id.h 21 0, some (rowB true false 1 cI a))]
noncomputable def L_sc_edges_L3 (a : List Int) (c : Dl1Cur) (b : DMap) (d e f : Nat) (g : Int) : Option R := lpK G T 150 Tryz.f150 [1, 1, 0, 1, 0] ((AV.ptr (Id.l 0) none 0) :: js 2 ((AV.ptr (Id.h 3 0) none 0) :: js 1 ((.own (Id.h 5 0) none d e f) :: (I g) :: js 26 []))) [(Id.l 0, bl (cl1Cur c)), (Id.h 3 0, some ⟨false, true, false, 0, cMap b⟩), (Id.h 5 0, some (rowB true false 1 cI a))]
noncomputable def L_slices_IndexFunc_Terrain_of_impl_terrainIndex_1_L2 (a : ByteArray) (b : List DTerrain) (c d : Int) : Option R := lpK G T 165 Tryz.f165 [1, 0, 1, 0] ((slc cTerrain b) :: (.clo 166 [(AV.ptr (Id.l 0) none 0)]) :: js 5 ((I c) :: (I d) :: js 10 [])) [(Id.l 0, some ⟨false, false, false, 0, [(S a)]⟩)]
noncomputable def L_sc_rules_L10 (a : List DTerrain) (u : List DKind) (b : List ByteArray) (c : List Int) (v : Dl1Cur) (g h i j k : Int) (d e f : Nat) (l m n o p : Int) (q : ByteArray) (r s : Int) (t : Bool) (y w x : Int) : Option R := lpK G T 120 Tryz.f120 [1, 1, 1, 1, 0, 1, 0, 0, 1, 0, 0, 1, 1, 0, 1, 0] ((AV.ptr (Id.l 0) none 0) :: js 1 ((AV.ptr (Id.h 2 0) none 0) :: js 1 ((AV.ptr (Id.h 4 0) none 0) :: (.own (Id.h 5 0) none 0 b.length b.length) :: (I y) :: (AV.ptr (Id.h 7 0) none 0) :: js 86 ((I w) :: (I x) :: js 19 [])))) [(Id.l 0, bl (cl1Cur v)), (Id.h 2 0, some ⟨false, true, false, 0, [.emp, .emp, (I g), (I h), (I i), (I j), (I k)]⟩), (Id.h 4 0, some ⟨false, true, false, 0, [(.own (Id.h 4 1) none 0 a.length a.length), (.own (Id.h 4 2) none d e f), (I l), (I m), (I n), (I o), (I p)]⟩), (Id.h 4 1, some (rowB true true 5 cTerrainN a)), (Id.h 4 2, some (rowB true false 6 cKind u)), (Id.h 5 0, some (rowB true false 1 cS b)), (Id.h 7 0, some ⟨false, true, false, 0, [(S q), (.own (Id.h 7 1) none 0 c.length c.length), (I r), (I s), (B t)]⟩), (Id.h 7 1, some (rowB true false 1 cI c))]
noncomputable def L_spec_FrontUnits_L5_1 (b a : List Int) (c : DBoard) (d : DState) (e f g : Int) : Option R := lpK G T 13 Tryz.f13 [1, 1, 1, 0, 1, 0] (js 2 ((I e) :: (AV.ptr (Id.h 3 0) none 0) :: (AV.ptr (Id.h 4 0) none 0) :: js 3 ((.own (Id.h 8 0) none 0 b.length b.length) :: js 12 ((.own (Id.h 21 0) none 0 a.length a.length) :: (I f) :: (I g) :: js 37 [])))) [(Id.h 3 0, some ⟨false, true, false, 0, cBoard c⟩), (Id.h 4 0, some ⟨false, true, false, 0, cState d⟩), (Id.h 8 0, some (rowB true false 1 cI b)), (Id.h 21 0, some (rowB true false 1 cI a))]
noncomputable def L_spec_l1Put_L2 (a : List Int) (b c d : Nat) (e f : Int) : Option R := lpK G T 124 Tryz.f124 [1, 1, 0, 0] ((.own (Id.l 0) none b c d) :: (I e) :: js 3 ((I f) :: js 42 [])) [(Id.l 0, some (rowB false false 1 cI a))]
noncomputable def L_xf_impl_FrontUnits_1_L2 (b : DState) (a : Int) (c : List Int) (d e : Int) : Option R := lpK G T 73 Tryz.f73 [1, 0, 1, 0] ((slc cI c) :: (.clo 38 [(AV.ptr (Id.l 0) none 0), (AV.ptr (Id.l 1) none 0)]) :: js 5 ((I d) :: (I e) :: js 10 [])) [(Id.l 0, bl (cState b)), (Id.l 1, some ⟨false, false, false, 0, [(I a)]⟩)]
noncomputable def L_impl_relaxed_L3 (b : List Int) (c : DBoard) (h a l : Int) (i : Bool) (d : List Int) (e f g : Nat) (j k : Int) : Option R := lpK G T 82 Tryz.f82 [1, 1, 0, 1, 0] (js 1 ((I h) :: (I a) :: (I l) :: (B i) :: (slc cI d) :: (AV.ptr (Id.h 6 0) none 0) :: js 6 ((.own (Id.h 13 0) none e f g) :: js 11 ((I j) :: (I k) :: js 75 [])))) [(Id.h 6 0, some ⟨false, true, false, 0, cBoard c⟩), (Id.h 13 0, some (rowB true false 1 cI b))]
noncomputable def L_impl_relaxed_L9 (c : List Int) (d : DBoard) (i b : Int) (j : Bool) (e : List Int) (f g h : Nat) (a : Bool) : Option R := lpK G T 82 Tryz.f82 [1, 1, 1, 1, 0, 1, 0] (js 1 ((I i) :: (I b) :: js 1 ((B j) :: (slc cI e) :: (AV.ptr (Id.h 6 0) none 0) :: js 6 ((.own (Id.h 13 0) none f g h) :: js 1 ((B a) :: js 86 []))))) [(Id.h 6 0, some ⟨false, true, false, 0, cBoard d⟩), (Id.h 13 0, some (rowB true false 1 cI c))]
noncomputable def L_impl_relaxed_L12 (c : List Int) (d : DBoard) (i b : Int) (j : Bool) (e : List Int) (f g h : Nat) (a : Bool) (k l : Int) : Option R := lpK G T 82 Tryz.f82 [1, 1, 1, 1, 0, 1, 0, 0, 1, 0, 1, 1, 0] (js 1 ((I i) :: (I b) :: js 1 ((B j) :: (slc cI e) :: (AV.ptr (Id.h 6 0) none 0) :: js 6 ((.own (Id.h 13 0) none f g h) :: js 1 ((B a) :: js 22 ((I k) :: (I l) :: js 62 [])))))) [(Id.h 6 0, some ⟨false, true, false, 0, cBoard d⟩), (Id.h 13 0, some (rowB true false 1 cI c))]
noncomputable def L_impl_relaxed_L15 (c : List Int) (d : DBoard) (i b : Int) (j : Bool) (e : List Int) (f g h : Nat) (a : Bool) (k l m n : Int) : Option R := lpK G T 82 Tryz.f82 [1, 1, 1, 1, 0, 1, 0, 0, 1, 0, 1, 1, 0, 0, 1, 1, 0, 0, 1, 1, 0] (js 1 ((I i) :: (I b) :: js 1 ((B j) :: (slc cI e) :: (AV.ptr (Id.h 6 0) none 0) :: js 6 ((.own (Id.h 13 0) none f g h) :: js 1 ((B a) :: (I k) :: js 21 ((I l) :: (I m) :: js 2 ((I n) :: js 59 []))))))) [(Id.h 6 0, some ⟨false, true, false, 0, cBoard d⟩), (Id.h 13 0, some (rowB true false 1 cI c))]
noncomputable def L_sc_combatTable_L8 (a : List DOdds) (b : List (List Int)) (c : List Int) (g : Dl1Cur) (d e f h : Int) : Option R := lpK G T 92 Tryz.f92 [1, 1, 1, 1, 1, 1, 1, 0, 1, 0] ((AV.ptr (Id.l 0) none 0) :: js 1 ((AV.ptr (Id.h 2 0) none 0) :: js 3 ((AV.ptr (Id.h 6 0) none 0) :: (.own (Id.h 7 0) none 0 c.length c.length) :: (I f) :: (I h) :: js 88 []))) [(Id.l 0, bl (cl1Cur g)), (Id.h 2 0, some ⟨false, true, false, 0, [.emp, (I d), .emp]⟩), (Id.h 6 0, some ⟨false, true, false, 0, [(.own (Id.h 6 1) none 0 a.length a.length), (I e), (.own (Id.h 6 2) none 0 b.length b.length)]⟩), (Id.h 6 1, some (rowB true false 2 cOdds a)), (Id.h 6 2, some (rowB true true 1 cLIN b)), (Id.h 7 0, some (rowB true false 1 cI c))]
noncomputable def L_impl_IsCombatTable_L4 (a : DCombatTable) (b : List DOdds) (c d : Int) : Option R := lpK G T 96 Tryz.f96 [1, 1, 0, 1, 0] (js 1 ((AV.ptr (Id.h 1 0) none 0) :: js 27 ((slc cOdds b) :: (I c) :: (I d) :: js 58 []))) [(Id.h 1 0, some ⟨false, true, false, 0, cCombatTable a⟩)]
noncomputable def L_spec_sGood_L4 (a : DBoard) (b : DState) (c : List DUnit) (d e : Int) : Option R := lpK G T 29 Tryz.f29 [1, 1, 0, 1, 0] (js 2 ((AV.ptr (Id.h 2 0) none 0) :: (AV.ptr (Id.h 3 0) none 0) :: js 30 ((slc cUnit c) :: (I d) :: (I e) :: js 43 []))) [(Id.h 2 0, some ⟨false, true, false, 0, cBoard a⟩), (Id.h 3 0, some ⟨false, true, false, 0, cState b⟩)]
noncomputable def L_sc_beaten_L4 (l : Dl1Cur) (a b c d e f g h i : Int) (j : DBoard) (k : DState) (m n : Int) : Option R := lpK G T 33 Tryz.f33 [1, 1, 1, 0, 1, 0] ((AV.ptr (Id.l 0) none 0) :: js 1 ((AV.ptr (Id.h 2 0) none 0) :: (AV.ptr (Id.h 3 0) none 0) :: js 1 ((AV.ptr (Id.h 5 0) none 0) :: (AV.ptr (Id.h 6 0) none 0) :: (I m) :: (I n) :: js 52 []))) [(Id.l 0, bl (cl1Cur l)), (Id.h 2 0, some ⟨false, true, false, 0, [.emp, .emp, (I a), (I b), (I c), (I d), (I e), (I f), (I g), .emp, .emp, .emp]⟩), (Id.h 3 0, some ⟨false, true, false, 0, [(I h), (I i), .emp]⟩), (Id.h 5 0, some ⟨false, true, false, 0, cBoard j⟩), (Id.h 6 0, some ⟨false, true, false, 0, cState k⟩)]
noncomputable def L_impl_controls_L4 (a : DBoard) (b : DUnit) (d c : Int) : Option R := lpK G T 161 Tryz.f161 [1, 1, 0, 1, 0] (js 2 ((I d) :: (AV.ptr (Id.h 3 0) none 0) :: (AV.ptr (Id.h 4 0) none 0) :: js 25 ((I c) :: js 20 []))) [(Id.h 3 0, some ⟨false, true, false, 0, cBoard a⟩), (Id.h 4 0, some ⟨false, true, false, 0, cUnit b⟩)]
noncomputable def L_sc_mapOf_L3 (a : List Int) (g : Dl1Cur) (c d e f b h : Int) : Option R := lpK G T 121 Tryz.f121 [1, 1, 0, 1, 0] ((AV.ptr (Id.l 0) none 0) :: (I b) :: js 2 ((AV.ptr (Id.h 4 0) none 0) :: (AV.ptr (Id.h 5 0) none 0) :: (I h) :: js 34 [])) [(Id.l 0, bl (cl1Cur g)), (Id.h 4 0, some ⟨false, true, false, 0, [(I c), (I d), .emp, .emp, .emp]⟩), (Id.h 5 0, some ⟨false, true, false, 0, [(I e), (I f), (.own (Id.h 5 1) none 0 a.length a.length), .emp, .emp]⟩), (Id.h 5 1, some (rowB true false 1 cI a))]
noncomputable def L_spec_mEdges_L2 (a : DMap) (b c : List Int) (d e : Int) : Option R := lpK G T 141 Tryz.f141 [1, 0, 1, 0] (js 1 ((slc cI b) :: (AV.ptr (Id.h 2 0) none 0) :: js 4 ((slc cI c) :: (I d) :: (I e) :: js 26 []))) [(Id.h 2 0, some ⟨false, true, false, 0, cMap a⟩)]
noncomputable def L_impl_openFor_L3 (a : List Bool) (b : DBoard) (c : DState) (d e f g : Int) : Option R := lpK G T 158 Tryz.f158 [1, 1, 0, 1, 0] (js 2 ((I d) :: (I e) :: (AV.ptr (Id.h 4 0) none 0) :: (AV.ptr (Id.h 5 0) none 0) :: js 3 ((.own (Id.h 9 0) none 0 a.length a.length) :: js 5 ((I f) :: (I g) :: js 20 [])))) [(Id.h 4 0, some ⟨false, true, false, 0, cBoard b⟩), (Id.h 5 0, some ⟨false, true, false, 0, cState c⟩), (Id.h 9 0, some (rowB true false 1 cB a))]
noncomputable def L_spec_sOf_L3 (a : List Int) (b : Int) (e : List DUnit) (c d : Int) : Option R := lpK G T 41 Tryz.f41 [1, 1, 0, 1, 0] (js 1 ((I b) :: js 3 ((.own (Id.h 5 0) none 0 a.length a.length) :: js 3 ((slc cUnit e) :: (I c) :: (I d) :: js 19 [])))) [(Id.h 5 0, some (rowB true false 1 cI a))]
noncomputable def L_impl_sideWorth_L3 (b : DBoard) (c : DState) (a : List Int) (d : Int) (e : List Int) (f g : Int) : Option R := lpK G T 58 Tryz.f58 [1, 1, 0, 1, 0] (js 3 ((slc cI a) :: (AV.ptr (Id.h 4 0) none 0) :: (AV.ptr (Id.h 5 0) none 0) :: js 3 ((I d) :: js 4 ((slc cI e) :: (I f) :: (I g) :: js 16 [])))) [(Id.h 4 0, some ⟨false, true, false, 0, cBoard b⟩), (Id.h 5 0, some ⟨false, true, false, 0, cState c⟩)]
noncomputable def L_impl_inZone_L2 (a : DBoard) (b f : Int) (c : List DUnit) (d e : Int) : Option R := lpK G T 144 Tryz.f144 [1, 0, 1, 0] (js 2 ((I b) :: (I f) :: (AV.ptr (Id.h 4 0) none 0) :: js 7 ((slc cUnit c) :: (I d) :: (I e) :: js 14 []))) [(Id.h 4 0, some ⟨false, true, false, 0, cBoard a⟩)]
noncomputable def L_spec_rTerrain_L2 (a : ByteArray) (b : List DTerrain) (c d : Int) : Option R := lpK G T 139 Tryz.f139 [1, 0, 1, 0] (js 1 ((S a) :: js 5 ((slc cTerrain b) :: (I c) :: (I d) :: js 10 []))) []
noncomputable def L_spec_rKind_L2 (a : ByteArray) (b : List DKind) (c d : Int) : Option R := lpK G T 140 Tryz.f140 [1, 0, 1, 0] (js 1 ((S a) :: js 5 ((slc cKind b) :: (I c) :: (I d) :: js 10 []))) []
noncomputable def L_spec_l1All_L2 (a b : Int) (e : List Int) (c d : Int) : Option R := lpK G T 104 Tryz.f104 [1, 0, 1, 0] (js 1 ((I a) :: (I b) :: js 6 ((slc cI e) :: (I c) :: (I d) :: js 9 []))) []
noncomputable def L_spec_l1Has_L2 (a : Int) (b : List Int) (c d : Int) : Option R := lpK G T 86 Tryz.f86 [1, 0, 1, 0] (js 1 ((I a) :: js 5 ((slc cI b) :: (I c) :: (I d) :: js 7 []))) []
noncomputable def L_sc_combatTable_L12 (b : List DOdds) (c : List (List Int)) (d a : List Int) (h : Dl1Cur) (e f g k i j : Int) : Option R := lpK G T 92 Tryz.f92 [1, 1, 1, 1, 1, 1, 1, 0, 1, 0, 0, 1, 0, 0, 1, 0, 1, 0] ((AV.ptr (Id.l 0) none 0) :: js 1 ((AV.ptr (Id.h 2 0) none 0) :: js 3 ((AV.ptr (Id.h 6 0) none 0) :: (.own (Id.h 7 0) none 0 d.length d.length) :: (I g) :: (I k) :: (.own (Id.h 10 0) none 0 a.length a.length) :: js 39 ((I i) :: (I j) :: js 46 [])))) [(Id.l 0, bl (cl1Cur h)), (Id.h 2 0, some ⟨false, true, false, 0, [.emp, (I e), .emp]⟩), (Id.h 6 0, some ⟨false, true, false, 0, [(.own (Id.h 6 1) none 0 b.length b.length), (I f), (.own (Id.h 6 2) none 0 c.length c.length)]⟩), (Id.h 6 1, some (rowB true false 2 cOdds b)), (Id.h 6 2, some (rowB true true 1 cLIN c)), (Id.h 7 0, some (rowB true false 1 cI d)), (Id.h 10 0, some (rowB true false 1 cI a))]
noncomputable def L_impl_IsCombatTable_L12 (a : DCombatTable) (b : List (List Int)) (c d : Int) : Option R := lpK G T 96 Tryz.f96 [1, 1, 1, 0, 1, 0] (js 1 ((AV.ptr (Id.h 1 0) none 0) :: js 71 ((slc cLI b) :: (I c) :: (I d) :: js 14 []))) [(Id.h 1 0, some ⟨false, true, false, 0, cCombatTable a⟩)]
noncomputable def L_spec_sGood_L10 (a : DBoard) (b : DState) (c : List DUnit) (d e : Int) : Option R := lpK G T 29 Tryz.f29 [1, 1, 1, 0, 1, 0] (js 2 ((AV.ptr (Id.h 2 0) none 0) :: (AV.ptr (Id.h 3 0) none 0) :: js 42 ((slc cUnit c) :: (I d) :: (I e) :: js 31 []))) [(Id.h 2 0, some ⟨false, true, false, 0, cBoard a⟩), (Id.h 3 0, some ⟨false, true, false, 0, cState b⟩)]
noncomputable def L_sc_sources_L3 (a : List Int) (g : Dl1Cur) (b : DBoard) (c : DState) (d e f : Nat) (h : Int) : Option R := lpK G T 91 Tryz.f91 [1, 1, 0, 1, 0] ((AV.ptr (Id.l 0) none 0) :: js 3 ((AV.ptr (Id.h 4 0) none 0) :: (AV.ptr (Id.h 5 0) none 0) :: js 1 ((.own (Id.h 7 0) none d e f) :: (I h) :: js 61 []))) [(Id.l 0, bl (cl1Cur g)), (Id.h 4 0, some ⟨false, true, false, 0, cBoard b⟩), (Id.h 5 0, some ⟨false, true, false, 0, cState c⟩), (Id.h 7 0, some (rowB true false 1 cI a))]
noncomputable def L_spec_jOpen_L3 (a : List Bool) (b : DBoard) (c : DState) (d e : Int) (f g h : Nat) (i j : Int) : Option R := lpK G T 159 Tryz.f159 [1, 1, 0, 1, 0] (js 2 ((I d) :: (I e) :: (AV.ptr (Id.h 4 0) none 0) :: (AV.ptr (Id.h 5 0) none 0) :: js 3 ((.own (Id.h 9 0) none f g h) :: js 6 ((I i) :: (I j) :: js 20 [])))) [(Id.h 4 0, some ⟨false, true, false, 0, cBoard b⟩), (Id.h 5 0, some ⟨false, true, false, 0, cState c⟩), (Id.h 9 0, some (rowB true false 1 cB a))]
noncomputable def L_slices_IndexFunc_Kind_of_impl_kindIndex_1_L2 (a : ByteArray) (b : List DKind) (c d : Int) : Option R := lpK G T 167 Tryz.f167 [1, 0, 1, 0] ((slc cKind b) :: (.clo 168 [(AV.ptr (Id.l 0) none 0)]) :: js 5 ((I c) :: (I d) :: js 10 [])) [(Id.l 0, some ⟨false, false, false, 0, [(S a)]⟩)]
noncomputable def L_xf_impl_IsCombatTable_1_L2 (a : List Int) (b c : Int) : Option R := lpK G T 73 Tryz.f73 [1, 0, 1, 0] ((slc cI a) :: (.clo 130 []) :: js 5 ((I b) :: (I c) :: js 10 [])) []
noncomputable def L_spec_pFrom_L4 (c : List Int) (a : List Bool) (d : DBoard) (i b l : Int) (e : List Int) (f g h : Nat) (j k : Int) : Option R := lpK G T 49 Tryz.f49 [1, 1, 1, 0, 1, 0] (js 1 ((I i) :: (I b) :: (I l) :: (slc cI e) :: (AV.ptr (Id.h 5 0) none 0) :: js 5 ((.own (Id.h 11 0) none f g h) :: (.own (Id.h 12 0) none 0 a.length a.length) :: js 16 ((I j) :: (I k) :: js 91 [])))) [(Id.h 5 0, some ⟨false, true, false, 0, cBoard d⟩), (Id.h 11 0, some (rowB true false 1 cI c)), (Id.h 12 0, some (rowB true false 1 cB a))]
noncomputable def L_spec_pFrom_L9 (b : List Int) (c : List Bool) (g : DBoard) (l a : Int) (h : List Int) (i j k d e f : Nat) : Option R := lpK G T 49 Tryz.f49 [1, 1, 1, 1, 1, 0] (js 1 ((I l) :: (I a) :: js 1 ((slc cI h) :: (AV.ptr (Id.h 5 0) none 0) :: js 5 ((.own (Id.h 11 0) none i j k) :: (.own (Id.h 12 0) none d e f) :: js 109 [])))) [(Id.h 5 0, some ⟨false, true, false, 0, cBoard g⟩), (Id.h 11 0, some (rowB true false 1 cI b)), (Id.h 12 0, some (rowB true false 1 cB c))]
noncomputable def L_spec_pFrom_L11 (b : List Int) (c : List Bool) (g : DBoard) (m a : Int) (h : List Int) (i j k d e f : Nat) (l : Int) (n o p : Nat) (q r : Int) : Option R := lpK G T 49 Tryz.f49 [1, 1, 1, 1, 1, 0, 0, 0, 1, 0, 1, 0] (js 1 ((I m) :: (I a) :: js 1 ((slc cI h) :: (AV.ptr (Id.h 5 0) none 0) :: js 5 ((.own (Id.h 11 0) none i j k) :: (.own (Id.h 12 0) none d e f) :: js 1 ((I l) :: js 25 ((.own (Id.h 11 0) none n o p) :: (I q) :: (I r) :: js 79 [])))))) [(Id.h 5 0, some ⟨false, true, false, 0, cBoard g⟩), (Id.h 11 0, some (rowB true false 1 cI b)), (Id.h 12 0, some (rowB true false 1 cB c))]
noncomputable def L_spec_pFrom_L20 (b : List Int) (c : List Bool) (g : DBoard) (m a : Int) (h : List Int) (i j k d e f : Nat) (l n : Int) : Option R := lpK G T 49 Tryz.f49 [1, 1, 1, 1, 1, 0, 0, 0, 1, 1, 1, 1, 1, 0] (js 1 ((I m) :: (I a) :: js 1 ((slc cI h) :: (AV.ptr (Id.h 5 0) none 0) :: js 5 ((.own (Id.h 11 0) none i j k) :: (.own (Id.h 12 0) none d e f) :: js 1 ((I l) :: js 2 ((I n) :: js 104 [])))))) [(Id.h 5 0, some ⟨false, true, false, 0, cBoard g⟩), (Id.h 11 0, some (rowB true false 1 cI b)), (Id.h 12 0, some (rowB true false 1 cB c))]
noncomputable def L_hT_impl_groundOf_1_L3 (a : List Int) (c : DBoard) (d : DState) (b e f : Int) : Option R := lpK G T 77 Tryz.f77 [1, 1, 0, 1, 0] (js 1 ((.clo 78 [(AV.ptr (Id.l 0) none 0), (AV.ptr (Id.l 1) none 0), (AV.ptr (Id.l 2) none 0)]) :: js 3 ((.own (Id.h 5 0) none 0 a.length a.length) :: js 5 ((I e) :: (I f) :: js 11 [])))) [(Id.l 0, bl (cBoard c)), (Id.l 1, bl (cState d)), (Id.l 2, some ⟨false, false, false, 0, [(I b)]⟩), (Id.h 5 0, some (rowB true false 1 cI a))]
noncomputable def L_hT_impl_reachFrom_1_L3 (a b : List Int) (c : DBoard) (d : DUnit) (e f : Int) : Option R := lpK G T 77 Tryz.f77 [1, 1, 0, 1, 0] (js 1 ((.clo 83 [(AV.ptr (Id.l 0) none 0), (AV.ptr (Id.l 1) none 0), (AV.ptr (Id.l 2) none 0)]) :: js 3 ((.own (Id.h 5 0) none 0 a.length a.length) :: js 5 ((I e) :: (I f) :: js 11 [])))) [(Id.l 0, some ⟨false, false, false, 0, [(slc cI b)]⟩), (Id.l 1, bl (cBoard c)), (Id.l 2, bl (cUnit d)), (Id.h 5 0, some (rowB true false 1 cI a))]
noncomputable def A_laws_FnValues (a b : KSl) : Option R := call G 3 [(Kn a), (Kn b)] []
noncomputable def A_sc_anyState (a : Dl1Cur) (b : DBoard) : Option R := call G 94 [(AV.ptr (Id.l 0) none 0), (.agg (cBoard b))] [(Id.l 0, bl (cl1Cur a))]
noncomputable def A_impl_IsRules (a : DRules) : Option R := call G 127 [(.agg (cRules a))] []
def en_impl_IsRules : Bool → R := fun (a : Bool) => (B a, [])
theorem inj_impl_IsRules : Inj en_impl_IsRules := fun a b h => by
 simpa [en_impl_IsRules, Prod.ext_iff, and_assoc] using h
noncomputable def A_sc_close (a : Dl1Cur) : Option R := call G 50 [(AV.ptr (Id.l 0) none 0)] [(Id.l 0, bl (cl1Cur a))]
def en_sc_close : (DBoard × DState) × Dl1Cur → R := fun (a : (DBoard × DState) × Dl1Cur) => (AV.tup [AV.agg (cBoard a.fst.fst), AV.agg (cState a.fst.snd)], [(Id.l 0, bl (cl1Cur a.snd))])
theorem inj_sc_close : Inj en_sc_close := fun a b h => by
 simpa [en_sc_close, Prod.ext_iff, and_assoc] using h
noncomputable def A_spec_zExerts (a : DBoard) (b : DState) (c d : Int) : Option R := call G 173 [(.agg (cBoard a)), (.agg (cState b)), (I c), (I d)] []
def en_spec_zExerts : Bool → R := fun (a : Bool) => (B a, [])
theorem inj_spec_zExerts : Inj en_spec_zExerts := fun a b h => by
 simpa [en_spec_zExerts, Prod.ext_iff, and_assoc] using h
noncomputable def A_impl_stepCost (c : DBoard) (b a d e : Int) : Option R := call G 115 [(.agg (cBoard c)), (I b), (I a), (I d), (I e)] []
def en_impl_stepCost : Int → R := fun (a : Int) => (I a, [])
theorem inj_impl_stepCost : Inj en_impl_stepCost := fun a b h => by
 simpa [en_impl_stepCost, Prod.ext_iff, and_assoc] using h
noncomputable def A_sc_match (a : Dl1Cur) : Option R := call G 20 [(AV.ptr (Id.l 0) none 0)] [(Id.l 0, bl (cl1Cur a))]
noncomputable def A_sc_moved (b : Dl1Cur) (c : DBoard) (d : DState) (a : Int) : Option R := call G 30 [(AV.ptr (Id.l 0) none 0), (.agg (cBoard c)), (.agg (cState d)), (I a)] [(Id.l 0, bl (cl1Cur b))]
noncomputable def A_spec_wGood (a : DClimate) : Option R := call G 63 [(.agg (cClimate a))] []
def en_spec_wGood : Bool → R := fun (a : Bool) => (B a, [])
theorem inj_spec_wGood : Inj en_spec_wGood := fun a b h => by
 simpa [en_spec_wGood, Prod.ext_iff, and_assoc] using h
noncomputable def A_impl_IsSetup (a : DSetup) : Option R := call G 56 [(.agg (cSetup a))] []
def en_impl_IsSetup : Bool → R := fun (a : Bool) => (B a, [])
theorem inj_impl_IsSetup : Inj en_impl_IsSetup := fun a b h => by
 simpa [en_impl_IsSetup, Prod.ext_iff, and_assoc] using h
noncomputable def A_impl_controlOf (a : DBoard) (b : DState) (c : Int) : Option R := call G 113 [(.agg (cBoard a)), (.agg (cState b)), (I c)] []
def en_impl_controlOf : Int → R := fun (a : Int) => (I a, [])
theorem inj_impl_controlOf : Inj en_impl_controlOf := fun a b h => by
 simpa [en_impl_controlOf, Prod.ext_iff, and_assoc] using h
noncomputable def A_spec_CompareStates (b : DSetup) (c d : DState) (a : Int) : Option R := call G 10 [(.agg (cSetup b)), (.agg (cState c)), (.agg (cState d)), (I a)] []
def en_spec_CompareStates : Int × Bool → R := fun (a : Int × Bool) => (AV.tup [I a.fst, B a.snd], [])
theorem inj_spec_CompareStates : Inj en_spec_CompareStates := fun a b h => by
 simpa [en_spec_CompareStates, Prod.ext_iff, and_assoc] using h
noncomputable def A_spec_sAt (b : DState) (c a : Int) : Option R := call G 66 [(.agg (cState b)), (I c), (I a)] []
def en_spec_sAt : List Int → R := fun (a : List Int) => (slc cI a, [])
theorem inj_spec_sAt : Inj en_spec_sAt := fun a b h => by
 simpa [en_spec_sAt, Prod.ext_iff, and_assoc] using h
noncomputable def A_impl_unitsOf (b : DState) (a : Int) : Option R := call G 35 [(.agg (cState b)), (I a)] []
def en_impl_unitsOf : List Int → R := fun (a : List Int) => (slc cI a, [])
theorem inj_impl_unitsOf : Inj en_impl_unitsOf := fun a b h => by
 simpa [en_impl_unitsOf, Prod.ext_iff, and_assoc] using h
noncomputable def A_spec_uSide (c : DBoard) (d : DState) (b : Int) (a : List Int) : Option R := call G 60 [(.agg (cBoard c)), (.agg (cState d)), (I b), (slc cI a)] []
def en_spec_uSide : Int → R := fun (a : Int) => (I a, [])
theorem inj_spec_uSide : Inj en_spec_uSide := fun a b h => by
 simpa [en_spec_uSide, Prod.ext_iff, and_assoc] using h
noncomputable def A_spec_DrawFrontUnits (a : KSl) : Option R := call G 11 [(Kn a)] []
def en_spec_DrawFrontUnits : DBoard × DState × Int → R := fun (a : DBoard × DState × Int) => (AV.tup [AV.agg (cBoard a.fst), AV.agg (cState a.snd.fst), I a.snd.snd], [])
theorem inj_spec_DrawFrontUnits : Inj en_spec_DrawFrontUnits := fun a b h => by
 simpa [en_spec_DrawFrontUnits, Prod.ext_iff, and_assoc] using h
noncomputable def A_impl_indexOf (a : DMap) (b : DHex) : Option R := call G 110 [(.agg (cMap a)), (.agg (cHex b))] []
def en_impl_indexOf : Int → R := fun (a : Int) => (I a, [])
theorem inj_impl_indexOf : Inj en_impl_indexOf := fun a b h => by
 simpa [en_impl_indexOf, Prod.ext_iff, and_assoc] using h
noncomputable def A_impl_blockedFor (b : DBoard) (c : DState) (a d : Int) : Option R := call G 170 [(.agg (cBoard b)), (.agg (cState c)), (I a), (I d)] []
def en_impl_blockedFor : Bool → R := fun (a : Bool) => (B a, [])
theorem inj_impl_blockedFor : Inj en_impl_blockedFor := fun a b h => by
 simpa [en_impl_blockedFor, Prod.ext_iff, and_assoc] using h
noncomputable def A_impl_edgeOf (a : DMap) (b c : Int) : Option R := call G 146 [(.agg (cMap a)), (I b), (I c)] []
def en_impl_edgeOf : Int → R := fun (a : Int) => (I a, [])
theorem inj_impl_edgeOf : Inj en_impl_edgeOf := fun a b h => by
 simpa [en_impl_edgeOf, Prod.ext_iff, and_assoc] using h
noncomputable def A_spec_zMap (a : DBoard) (b : DState) : Option R := call G 80 [(.agg (cBoard a)), (.agg (cState b))] []
def en_spec_zMap : List Int → R := fun (a : List Int) => (slc cI a, [])
theorem inj_spec_zMap : Inj en_spec_zMap := fun a b h => by
 simpa [en_spec_zMap, Prod.ext_iff, and_assoc] using h
noncomputable def A_impl_ownerOf (a : DState) (b : Int) : Option R := call G 39 [(.agg (cState a)), (I b)] []
def en_impl_ownerOf : Int → R := fun (a : Int) => (I a, [])
theorem inj_impl_ownerOf : Inj en_impl_ownerOf := fun a b h => by
 simpa [en_impl_ownerOf, Prod.ext_iff, and_assoc] using h
noncomputable def A_spec_ValueOf (b : DSetup) (c : DState) (a : Int) : Option R := call G 7 [(.agg (cSetup b)), (.agg (cState c)), (I a)] []
def en_spec_ValueOf : Int × Bool → R := fun (a : Int × Bool) => (AV.tup [I a.fst, B a.snd], [])
theorem inj_spec_ValueOf : Inj en_spec_ValueOf := fun a b h => by
 simpa [en_spec_ValueOf, Prod.ext_iff, and_assoc] using h
noncomputable def A_impl_IsBoard (a : DBoard) : Option R := call G 95 [(.agg (cBoard a))] []
def en_impl_IsBoard : Bool → R := fun (a : Bool) => (B a, [])
theorem inj_impl_IsBoard : Inj en_impl_IsBoard := fun a b h => by
 simpa [en_impl_IsBoard, Prod.ext_iff, and_assoc] using h
noncomputable def A_sc_pick (a : Dl1Cur) (b : Int) : Option R := call G 21 [(AV.ptr (Id.l 0) none 0), (I b)] [(Id.l 0, bl (cl1Cur a))]
def en_sc_pick : Int × Dl1Cur → R := fun (a : Int × Dl1Cur) => (I a.fst, [(Id.l 0, bl (cl1Cur a.snd))])
theorem inj_sc_pick : Inj en_sc_pick := fun a b h => by
 simpa [en_sc_pick, Prod.ext_iff, and_assoc] using h
noncomputable def A_impl_GroundOf (b : DBoard) (c : DState) (a : Int) : Option R := call G 14 [(.agg (cBoard b)), (.agg (cState c)), (I a)] []
def en_impl_GroundOf : Int × Bool → R := fun (a : Int × Bool) => (AV.tup [I a.fst, B a.snd], [])
theorem inj_impl_GroundOf : Inj en_impl_GroundOf := fun a b h => by
 simpa [en_impl_GroundOf, Prod.ext_iff, and_assoc] using h
noncomputable def A_impl_areSources (b : DBoard) (a : List Int) : Option R := call G 98 [(.agg (cBoard b)), (slc cI a)] []
def en_impl_areSources : Bool → R := fun (a : Bool) => (B a, [])
theorem inj_impl_areSources : Inj en_impl_areSources := fun a b h => by
 simpa [en_impl_areSources, Prod.ext_iff, and_assoc] using h
noncomputable def A_impl_wayOf (b : DBoard) (c : DState) (d : DUnit) (a : List Int) : Option R := call G 136 [(.agg (cBoard b)), (.agg (cState c)), (.agg (cUnit d)), (slc cI a)] []
def en_impl_wayOf : Int → R := fun (a : Int) => (I a, [])
theorem inj_impl_wayOf : Inj en_impl_wayOf := fun a b h => by
 simpa [en_impl_wayOf, Prod.ext_iff, and_assoc] using h
noncomputable def A_impl_hasUnit (a : DBoard) (b : DState) (c : Int) : Option R := call G 46 [(.agg (cBoard a)), (.agg (cState b)), (I c)] []
def en_impl_hasUnit : Bool → R := fun (a : Bool) => (B a, [])
theorem inj_impl_hasUnit : Inj en_impl_hasUnit := fun a b h => by
 simpa [en_impl_hasUnit, Prod.ext_iff, and_assoc] using h
noncomputable def A_spec_bTerrain (a : DBoard) (b : Int) : Option R := call G 142 [(.agg (cBoard a)), (I b)] []
def en_spec_bTerrain : DTerrain → R := fun (a : DTerrain) => (AV.agg (cTerrain a), [])
theorem inj_spec_bTerrain : Inj en_spec_bTerrain := fun a b h => by
 simpa [en_spec_bTerrain, Prod.ext_iff, and_assoc] using h
noncomputable def A_spec_sOwn (a : DState) : Option R := call G 67 [(.agg (cState a))] []
def en_spec_sOwn : DState → R := fun (a : DState) => (AV.agg [I a.Turn, I a.Weather, AV.own (Id.r 0 0) none 0 a.Units.length a.Units.length], [(Id.r 0 0, some (rowB true false 4 cUnit a.Units))])
theorem inj_spec_sOwn : Inj en_spec_sOwn := fun a b h => by
 first | (simpa [en_spec_sOwn, Prod.ext_iff, and_assoc] using h) | (obtain ⟨_, _, _⟩ := a; obtain ⟨_, _, _⟩ := b; simp [en_spec_sOwn] at h ⊢; simp_all; done) | (obtain ⟨_, _, _⟩ := a; obtain ⟨_, _, _⟩ := b; simp [en_spec_sOwn] at h; obtain ⟨h1, h2⟩ := h; have h3 := List.append_inj h2.2.2 h1.2.1.1; simp_all) | (obtain ⟨_, _, _⟩ := a; obtain ⟨_, _, _⟩ := b; simp [en_spec_sOwn] at h; obtain ⟨h1, h2⟩ := h; have h3 := List.append_inj h2.2 h1.1; simp_all)
noncomputable def A_impl_hexOf (a : DMap) (b : Int) : Option R := call G 112 [(.agg (cMap a)), (I b)] []
def en_impl_hexOf : DHex → R := fun (a : DHex) => (AV.agg (cHex a), [])
theorem inj_impl_hexOf : Inj en_impl_hexOf := fun a b h => by
 simpa [en_impl_hexOf, Prod.ext_iff, and_assoc] using h
noncomputable def A_spec_zIn (b : DBoard) (c : DState) (d a : Int) : Option R := call G 145 [(.agg (cBoard b)), (.agg (cState c)), (I d), (I a)] []
def en_spec_zIn : Bool → R := fun (a : Bool) => (B a, [])
theorem inj_spec_zIn : Inj en_spec_zIn := fun a b h => by
 simpa [en_spec_zIn, Prod.ext_iff, and_assoc] using h
noncomputable def A_spec_mNext (a : DMap) (b c : Int) : Option R := call G 42 [(.agg (cMap a)), (I b), (I c)] []
def en_spec_mNext : Int → R := fun (a : Int) => (I a, [])
theorem inj_spec_mNext : Inj en_spec_mNext := fun a b h => by
 simpa [en_spec_mNext, Prod.ext_iff, and_assoc] using h
noncomputable def A_spec_mRoad (a : DMap) (b c : Int) : Option R := call G 117 [(.agg (cMap a)), (I b), (I c)] []
def en_spec_mRoad : Bool → R := fun (a : Bool) => (B a, [])
theorem inj_spec_mRoad : Inj en_spec_mRoad := fun a b h => by
 simpa [en_spec_mRoad, Prod.ext_iff, and_assoc] using h
noncomputable def A_spec_l1Most (a b : Int) : Option R := call G 108 [(I a), (I b)] []
def en_spec_l1Most : Int → R := fun (a : Int) => (I a, [])
theorem inj_spec_l1Most : Inj en_spec_l1Most := fun a b h => by
 simpa [en_spec_l1Most, Prod.ext_iff, and_assoc] using h
noncomputable def A_impl_sizeOf (a : DBoard) : Option R := call G 69 [(.agg (cBoard a))] []
def en_impl_sizeOf : Int → R := fun (a : Int) => (I a, [])
theorem inj_impl_sizeOf : Inj en_impl_sizeOf := fun a b h => by
 simpa [en_impl_sizeOf, Prod.ext_iff, and_assoc] using h
noncomputable def A_sc_one (a : Dl1Cur) (b : Int) : Option R := call G 88 [(AV.ptr (Id.l 0) none 0), (I b)] [(Id.l 0, bl (cl1Cur a))]
def en_sc_one : Bool × Dl1Cur → R := fun (a : Bool × Dl1Cur) => (B a.fst, [(Id.l 0, bl (cl1Cur a.snd))])
theorem inj_sc_one : Inj en_sc_one := fun a b h => by
 simpa [en_sc_one, Prod.ext_iff, and_assoc] using h
noncomputable def A_impl_isSide (a : Int) : Option R := call G 23 [(I a)] []
def en_impl_isSide : Bool → R := fun (a : Bool) => (B a, [])
theorem inj_impl_isSide : Inj en_impl_isSide := fun a b h => by
 simpa [en_impl_isSide, Prod.ext_iff, and_assoc] using h
noncomputable def A_laws_big (a b : KSl) : Option R := call G 4 [(Kn a), (Kn b)] []
def en_laws_big : Bool → R := fun (a : Bool) => (B a, [])
theorem inj_laws_big : Inj en_laws_big := fun a b h => by
 simpa [en_laws_big, Prod.ext_iff, and_assoc] using h
noncomputable def A_spec_DrawValueOf (a : KSl) : Option R := call G 5 [(Kn a)] []
def en_spec_DrawValueOf : DSetup × DState × Int → R := fun (a : DSetup × DState × Int) => (AV.tup [AV.agg (cSetup a.fst), AV.agg (cState a.snd.fst), I a.snd.snd], [])
theorem inj_spec_DrawValueOf : Inj en_spec_DrawValueOf := fun a b h => by
 simpa [en_spec_DrawValueOf, Prod.ext_iff, and_assoc] using h
noncomputable def A_impl_ValueOf (b : DSetup) (c : DState) (a : Int) : Option R := call G 6 [(.agg (cSetup b)), (.agg (cState c)), (I a)] []
def en_impl_ValueOf : Int × Bool → R := fun (a : Int × Bool) => (AV.tup [I a.fst, B a.snd], [])
theorem inj_impl_ValueOf : Inj en_impl_ValueOf := fun a b h => by
 simpa [en_impl_ValueOf, Prod.ext_iff, and_assoc] using h
noncomputable def A_spec_DrawCompareStates (a : KSl) : Option R := call G 8 [(Kn a)] []
def en_spec_DrawCompareStates : DSetup × DState × DState × Int → R := fun (a : DSetup × DState × DState × Int) => (AV.tup [AV.agg (cSetup a.fst), AV.agg (cState a.snd.fst), AV.agg (cState a.snd.snd.fst), I a.snd.snd.snd], [])
theorem inj_spec_DrawCompareStates : Inj en_spec_DrawCompareStates := fun a b h => by
 simpa [en_spec_DrawCompareStates, Prod.ext_iff, and_assoc] using h
noncomputable def A_impl_CompareStates (b : DSetup) (c d : DState) (a : Int) : Option R := call G 9 [(.agg (cSetup b)), (.agg (cState c)), (.agg (cState d)), (I a)] []
def en_impl_CompareStates : Int × Bool → R := fun (a : Int × Bool) => (AV.tup [I a.fst, B a.snd], [])
theorem inj_impl_CompareStates : Inj en_impl_CompareStates := fun a b h => by
 simpa [en_impl_CompareStates, Prod.ext_iff, and_assoc] using h
noncomputable def A_impl_FrontUnits (b : DBoard) (c : DState) (a : Int) : Option R := call G 12 [(.agg (cBoard b)), (.agg (cState c)), (I a)] []
def en_impl_FrontUnits : List Int × Bool → R := fun (a : List Int × Bool) => (AV.tup [slc cI a.fst, B a.snd], [])
theorem inj_impl_FrontUnits : Inj en_impl_FrontUnits := fun a b h => by
 simpa [en_impl_FrontUnits, Prod.ext_iff, and_assoc] using h
noncomputable def A_spec_FrontUnits (b : DBoard) (c : DState) (a : Int) : Option R := call G 13 [(.agg (cBoard b)), (.agg (cState c)), (I a)] []
def en_spec_FrontUnits : List Int × Bool → R := fun (a : List Int × Bool) => (AV.tup [slc cI a.fst, B a.snd], [])
theorem inj_spec_FrontUnits : Inj en_spec_FrontUnits := fun a b h => by
 simpa [en_spec_FrontUnits, Prod.ext_iff, and_assoc] using h
noncomputable def A_spec_GroundOf (b : DBoard) (c : DState) (a : Int) : Option R := call G 15 [(.agg (cBoard b)), (.agg (cState c)), (I a)] []
def en_spec_GroundOf : Int × Bool → R := fun (a : Int × Bool) => (AV.tup [I a.fst, B a.snd], [])
theorem inj_spec_GroundOf : Inj en_spec_GroundOf := fun a b h => by
 simpa [en_spec_GroundOf, Prod.ext_iff, and_assoc] using h
noncomputable def A_spec_DrawMobilityOf (a : KSl) : Option R := call G 16 [(Kn a)] []
def en_spec_DrawMobilityOf : DBoard × DState × Int → R := fun (a : DBoard × DState × Int) => (AV.tup [AV.agg (cBoard a.fst), AV.agg (cState a.snd.fst), I a.snd.snd], [])
theorem inj_spec_DrawMobilityOf : Inj en_spec_DrawMobilityOf := fun a b h => by
 simpa [en_spec_DrawMobilityOf, Prod.ext_iff, and_assoc] using h
noncomputable def A_impl_MobilityOf (a : DBoard) (b : DState) (c : Int) : Option R := call G 17 [(.agg (cBoard a)), (.agg (cState b)), (I c)] []
def en_impl_MobilityOf : Int × Bool → R := fun (a : Int × Bool) => (AV.tup [I a.fst, B a.snd], [])
theorem inj_impl_MobilityOf : Inj en_impl_MobilityOf := fun a b h => by
 simpa [en_impl_MobilityOf, Prod.ext_iff, and_assoc] using h
noncomputable def A_spec_MobilityOf (a : DBoard) (b : DState) (c : Int) : Option R := call G 18 [(.agg (cBoard a)), (.agg (cState b)), (I c)] []
def en_spec_MobilityOf : Int × Bool → R := fun (a : Int × Bool) => (AV.tup [I a.fst, B a.snd], [])
theorem inj_spec_MobilityOf : Inj en_spec_MobilityOf := fun a b h => by
 simpa [en_spec_MobilityOf, Prod.ext_iff, and_assoc] using h
noncomputable def A_laws_sameInts (a b : List Int) : Option R := call G 19 [(slc cI a), (slc cI b)] []
def en_laws_sameInts : Bool → R := fun (a : Bool) => (B a, [])
theorem inj_laws_sameInts : Inj en_laws_sameInts := fun a b h => by
 simpa [en_laws_sameInts, Prod.ext_iff, and_assoc] using h
noncomputable def A_spec_bGood (a : DBoard) : Option R := call G 61 [(.agg (cBoard a))] []
def en_spec_bGood : Bool → R := fun (a : Bool) => (B a, [])
theorem inj_spec_bGood : Inj en_spec_bGood := fun a b h => by
 simpa [en_spec_bGood, Prod.ext_iff, and_assoc] using h
noncomputable def A_sc_state (a : Dl1Cur) (b : DBoard) : Option R := call G 89 [(AV.ptr (Id.l 0) none 0), (.agg (cBoard b))] [(Id.l 0, bl (cl1Cur a))]
def en_sc_state : DState × Dl1Cur → R := fun (a : DState × Dl1Cur) => (AV.agg [I a.fst.Turn, I a.fst.Weather, AV.own (Id.r 0 0) none 0 a.fst.Units.length a.fst.Units.length], [(Id.l 0, bl (cl1Cur a.snd)), (Id.r 0 0, some (rowB true false 4 cUnit a.fst.Units))])
theorem inj_sc_state : Inj en_sc_state := fun a b h => by
 first | (simpa [en_sc_state, Prod.ext_iff, and_assoc] using h) | (obtain ⟨⟨_, _, _⟩, _⟩ := a; obtain ⟨⟨_, _, _⟩, _⟩ := b; simp [en_sc_state] at h ⊢; simp_all; done) | (obtain ⟨⟨_, _, _⟩, _⟩ := a; obtain ⟨⟨_, _, _⟩, _⟩ := b; simp [en_sc_state] at h; obtain ⟨h1, h2⟩ := h; have h3 := List.append_inj h2.2.2 h1.2.1.1; simp_all) | (obtain ⟨⟨_, _, _⟩, _⟩ := a; obtain ⟨⟨_, _, _⟩, _⟩ := b; simp [en_sc_state] at h; obtain ⟨h1, h2⟩ := h; have h3 := List.append_inj h2.2 h1.1; simp_all)
noncomputable def A_sc_among (b : Dl1Cur) (a : List Int) : Option R := call G 54 [(AV.ptr (Id.l 0) none 0), (slc cI a)] [(Id.l 0, bl (cl1Cur b))]
def en_sc_among : Int × Dl1Cur → R := fun (a : Int × Dl1Cur) => (I a.fst, [(Id.l 0, bl (cl1Cur a.snd))])
theorem inj_sc_among : Inj en_sc_among := fun a b h => by
 simpa [en_sc_among, Prod.ext_iff, and_assoc] using h
noncomputable def A_spec_mSize (a : DMap) : Option R := call G 84 [(.agg (cMap a))] []
def en_spec_mSize : Int → R := fun (a : Int) => (I a, [])
theorem inj_spec_mSize : Inj en_spec_mSize := fun a b h => by
 simpa [en_spec_mSize, Prod.ext_iff, and_assoc] using h
noncomputable def A_impl_inRange (c b a : Int) : Option R := call G 57 [(I c), (I b), (I a)] []
def en_impl_inRange : Bool → R := fun (a : Bool) => (B a, [])
theorem inj_impl_inRange : Inj en_impl_inRange := fun a b h => by
 simpa [en_impl_inRange, Prod.ext_iff, and_assoc] using h
noncomputable def A_sc_board (a : Dl1Cur) : Option R := call G 87 [(AV.ptr (Id.l 0) none 0)] [(Id.l 0, bl (cl1Cur a))]
def en_sc_board : DBoard × Dl1Cur → R := fun (a : DBoard × Dl1Cur) => (AV.agg (cBoard a.fst), [(Id.l 0, bl (cl1Cur a.snd))])
theorem inj_sc_board : Inj en_sc_board := fun a b h => by
 simpa [en_sc_board, Prod.ext_iff, and_assoc] using h
noncomputable def A_spec_bCost (b : DBoard) (a c : Int) : Option R := call G 107 [(.agg (cBoard b)), (I a), (I c)] []
def en_spec_bCost : Int → R := fun (a : Int) => (I a, [])
theorem inj_spec_bCost : Inj en_spec_bCost := fun a b h => by
 simpa [en_spec_bCost, Prod.ext_iff, and_assoc] using h
noncomputable def A_impl_nextTo (a : DMap) (b c : Int) : Option R := call G 72 [(.agg (cMap a)), (I b), (I c)] []
def en_impl_nextTo : Int → R := fun (a : Int) => (I a, [])
theorem inj_impl_nextTo : Inj en_impl_nextTo := fun a b h => by
 simpa [en_impl_nextTo, Prod.ext_iff, and_assoc] using h
noncomputable def A_impl_enterCost (b : DBoard) (a c : Int) : Option R := call G 109 [(.agg (cBoard b)), (I a), (I c)] []
def en_impl_enterCost : Int → R := fun (a : Int) => (I a, [])
theorem inj_impl_enterCost : Inj en_impl_enterCost := fun a b h => by
 simpa [en_impl_enterCost, Prod.ext_iff, and_assoc] using h
noncomputable def A_slices_Contains_int (a : List Int) (b : Int) : Option R := call G 116 [(slc cI a), (I b)] []
def en_slices_Contains_int : Bool → R := fun (a : Bool) => (B a, [])
theorem inj_slices_Contains_int : Inj en_slices_Contains_int := fun a b h => by
 simpa [en_slices_Contains_int, Prod.ext_iff, and_assoc] using h
noncomputable def A_impl_weatherCost (a : Int) (b : Bool) : Option R := call G 147 [(I a), (B b)] []
def en_impl_weatherCost : Int → R := fun (a : Int) => (I a, [])
theorem inj_impl_weatherCost : Inj en_impl_weatherCost := fun a b h => by
 simpa [en_impl_weatherCost, Prod.ext_iff, and_assoc] using h
noncomputable def A_sc_setup (a : Dl1Cur) (b : DBoard) (c : DState) : Option R := call G 51 [(AV.ptr (Id.l 0) none 0), (.agg (cBoard b)), (.agg (cState c))] [(Id.l 0, bl (cl1Cur a))]
def en_sc_setup : DSetup × Dl1Cur → R := fun (a : DSetup × Dl1Cur) => (AV.agg (cSetup a.fst), [(Id.l 0, bl (cl1Cur a.snd))])
theorem inj_sc_setup : Inj en_sc_setup := fun a b h => by
 simpa [en_sc_setup, Prod.ext_iff, and_assoc] using h
noncomputable def A_sc_game (a : Dl1Cur) : Option R := call G 52 [(AV.ptr (Id.l 0) none 0)] [(Id.l 0, bl (cl1Cur a))]
def en_sc_game : (DBoard × DState) × Dl1Cur → R := fun (a : (DBoard × DState) × Dl1Cur) => (AV.tup [AV.agg (cBoard a.fst.fst), AV.agg [I a.fst.snd.Turn, I a.fst.snd.Weather, AV.own (Id.r 0 0) none 0 a.fst.snd.Units.length a.fst.snd.Units.length]], [(Id.l 0, bl (cl1Cur a.snd)), (Id.r 0 0, some (rowB true false 4 cUnit a.fst.snd.Units))])
theorem inj_sc_game : Inj en_sc_game := fun a b h => by
 first | (simpa [en_sc_game, Prod.ext_iff, and_assoc] using h) | (obtain ⟨⟨⟨⟨_, _, _, _, _, _, _⟩, ⟨_, _, _, _, _⟩⟩, ⟨_, _, _⟩⟩, _⟩ := a; obtain ⟨⟨⟨⟨_, _, _, _, _, _, _⟩, ⟨_, _, _, _, _⟩⟩, ⟨_, _, _⟩⟩, _⟩ := b; simp [en_sc_game] at h ⊢; simp_all; done) | (obtain ⟨⟨⟨⟨_, _, _, _, _, _, _⟩, ⟨_, _, _, _, _⟩⟩, ⟨_, _, _⟩⟩, _⟩ := a; obtain ⟨⟨⟨⟨_, _, _, _, _, _, _⟩, ⟨_, _, _, _, _⟩⟩, ⟨_, _, _⟩⟩, _⟩ := b; simp [en_sc_game] at h; obtain ⟨h1, h2⟩ := h; have h3 := List.append_inj h2.2.2 h1.2.1.1; simp_all) | (obtain ⟨⟨⟨⟨_, _, _, _, _, _, _⟩, ⟨_, _, _, _, _⟩⟩, ⟨_, _, _⟩⟩, _⟩ := a; obtain ⟨⟨⟨⟨_, _, _, _, _, _, _⟩, ⟨_, _, _, _, _⟩⟩, ⟨_, _, _⟩⟩, _⟩ := b; simp [en_sc_game] at h; obtain ⟨h1, h2⟩ := h; have h3 := List.append_inj h2.2 h1.1; simp_all)
noncomputable def A_sc_anyClimate (a : Dl1Cur) : Option R := call G 53 [(AV.ptr (Id.l 0) none 0)] [(Id.l 0, bl (cl1Cur a))]
def en_sc_anyClimate : DClimate × Dl1Cur → R := fun (a : DClimate × Dl1Cur) => (AV.agg (cClimate a.fst), [(Id.l 0, bl (cl1Cur a.snd))])
theorem inj_sc_anyClimate : Inj en_sc_anyClimate := fun a b h => by
 simpa [en_sc_anyClimate, Prod.ext_iff, and_assoc] using h
noncomputable def A_impl_IsCombatTable (a : DCombatTable) : Option R := call G 96 [(.agg (cCombatTable a))] []
def en_impl_IsCombatTable : Bool → R := fun (a : Bool) => (B a, [])
theorem inj_impl_IsCombatTable : Inj en_impl_IsCombatTable := fun a b h => by
 simpa [en_impl_IsCombatTable, Prod.ext_iff, and_assoc] using h
noncomputable def A_impl_IsClimate (a : DClimate) : Option R := call G 97 [(.agg (cClimate a))] []
def en_impl_IsClimate : Bool → R := fun (a : Bool) => (B a, [])
theorem inj_impl_IsClimate : Inj en_impl_IsClimate := fun a b h => by
 simpa [en_impl_IsClimate, Prod.ext_iff, and_assoc] using h
noncomputable def A_impl_inZone (b : DBoard) (c : DState) (a d : Int) : Option R := call G 144 [(.agg (cBoard b)), (.agg (cState c)), (I a), (I d)] []
def en_impl_inZone : Bool → R := fun (a : Bool) => (B a, [])
theorem inj_impl_inZone : Inj en_impl_inZone := fun a b h => by
 simpa [en_impl_inZone, Prod.ext_iff, and_assoc] using h
noncomputable def A_spec_tAsked (b : DSetup) (c : DState) (a : Int) : Option R := call G 25 [(.agg (cSetup b)), (.agg (cState c)), (I a)] []
def en_spec_tAsked : Bool → R := fun (a : Bool) => (B a, [])
theorem inj_spec_tAsked : Inj en_spec_tAsked := fun a b h => by
 simpa [en_spec_tAsked, Prod.ext_iff, and_assoc] using h
noncomputable def A_spec_sGood (a : DBoard) (b : DState) : Option R := call G 29 [(.agg (cBoard a)), (.agg (cState b))] []
def en_spec_sGood : Bool → R := fun (a : Bool) => (B a, [])
theorem inj_spec_sGood : Inj en_spec_sGood := fun a b h => by
 simpa [en_spec_sGood, Prod.ext_iff, and_assoc] using h
noncomputable def A_spec_l1In (c a b : Int) : Option R := call G 26 [(I c), (I a), (I b)] []
def en_spec_l1In : Bool → R := fun (a : Bool) => (B a, [])
theorem inj_spec_l1In : Inj en_spec_l1In := fun a b h => by
 simpa [en_spec_l1In, Prod.ext_iff, and_assoc] using h
noncomputable def A_spec_uValue (b : DSetup) (c : DState) (a : Int) : Option R := call G 27 [(.agg (cSetup b)), (.agg (cState c)), (I a)] []
def en_spec_uValue : Int → R := fun (a : Int) => (I a, [])
theorem inj_spec_uValue : Inj en_spec_uValue := fun a b h => by
 simpa [en_spec_uValue, Prod.ext_iff, and_assoc] using h
noncomputable def A_spec_l1Sign (a : Int) : Option R := call G 32 [(I a)] []
def en_spec_l1Sign : Int → R := fun (a : Int) => (I a, [])
theorem inj_spec_l1Sign : Inj en_spec_l1Sign := fun a b h => by
 simpa [en_spec_l1Sign, Prod.ext_iff, and_assoc] using h
noncomputable def A_spec_sOf (b : DState) (a : Int) : Option R := call G 41 [(.agg (cState b)), (I a)] []
def en_spec_sOf : List Int → R := fun (a : List Int) => (AV.own (Id.r 0 0) none 0 a.length a.length, [(Id.r 0 0, some (rowB true false 1 cI a))])
theorem inj_spec_sOf : Inj en_spec_sOf := fun a b h => by
 first | (simpa [en_spec_sOf, Prod.ext_iff, and_assoc] using h) | (obtain _ := a; obtain _ := b; simp [en_spec_sOf] at h ⊢; simp_all; done) | (obtain _ := a; obtain _ := b; simp [en_spec_sOf] at h; obtain ⟨h1, h2⟩ := h; have h3 := List.append_inj h2.2.2 h1.2.1.1; simp_all) | (obtain _ := a; obtain _ := b; simp [en_spec_sOf] at h; obtain ⟨h1, h2⟩ := h; have h3 := List.append_inj h2.2 h1.1; simp_all)
noncomputable def A_sc_beaten (a : Dl1Cur) : Option R := call G 33 [(AV.ptr (Id.l 0) none 0)] [(Id.l 0, bl (cl1Cur a))]
def en_sc_beaten : (DBoard × DState × Int) × Dl1Cur → R := fun (a : (DBoard × DState × Int) × Dl1Cur) => (AV.tup [AV.agg (cBoard a.fst.fst), AV.agg (cState a.fst.snd.fst), I a.fst.snd.snd], [(Id.l 0, bl (cl1Cur a.snd))])
theorem inj_sc_beaten : Inj en_sc_beaten := fun a b h => by
 simpa [en_sc_beaten, Prod.ext_iff, and_assoc] using h
noncomputable def A_impl_isIndex (b a : Int) : Option R := call G 81 [(I b), (I a)] []
def en_impl_isIndex : Bool → R := fun (a : Bool) => (B a, [])
theorem inj_impl_isIndex : Inj en_impl_isIndex := fun a b h => by
 simpa [en_impl_isIndex, Prod.ext_iff, and_assoc] using h
noncomputable def A_impl_IsMap (a : DMap) : Option R := call G 128 [(.agg (cMap a))] []
def en_impl_IsMap : Bool → R := fun (a : Bool) => (B a, [])
theorem inj_impl_IsMap : Inj en_impl_IsMap := fun a b h => by
 simpa [en_impl_IsMap, Prod.ext_iff, and_assoc] using h
noncomputable def A_cf_impl_IsBoard_1 (a : DBoard) (b : List Int) : Option R := call G 37 [(slc cI b), (.clo 129 [(AV.ptr (Id.l 0) none 0)])] [(Id.l 0, bl (cBoard a))]
def en_cf_impl_IsBoard_1 : Bool × DBoard → R := fun (a : Bool × DBoard) => (B a.fst, [(Id.l 0, bl (cBoard a.snd))])
theorem inj_cf_impl_IsBoard_1 : Inj en_cf_impl_IsBoard_1 := fun a b h => by
 simpa [en_cf_impl_IsBoard_1, Prod.ext_iff, and_assoc] using h
noncomputable def A_sc_next (a : Dl1Cur) : Option R := call G 55 [(AV.ptr (Id.l 0) none 0)] [(Id.l 0, bl (cl1Cur a))]
def en_sc_next : Int × Dl1Cur → R := fun (a : Int × Dl1Cur) => (I a.fst, [(Id.l 0, bl (cl1Cur a.snd))])
theorem inj_sc_next : Inj en_sc_next := fun a b h => by
 simpa [en_sc_next, Prod.ext_iff, and_assoc] using h
noncomputable def A_impl_isLook (b : DBoard) (c : DState) (a : Int) : Option R := call G 34 [(.agg (cBoard b)), (.agg (cState c)), (I a)] []
def en_impl_isLook : Bool → R := fun (a : Bool) => (B a, [])
theorem inj_impl_isLook : Inj en_impl_isLook := fun a b h => by
 simpa [en_impl_isLook, Prod.ext_iff, and_assoc] using h
noncomputable def A_impl_groundOf (b : DBoard) (c : DState) (a : Int) : Option R := call G 44 [(.agg (cBoard b)), (.agg (cState c)), (I a)] []
def en_impl_groundOf : Int → R := fun (a : Int) => (I a, [])
theorem inj_impl_groundOf : Inj en_impl_groundOf := fun a b h => by
 simpa [en_impl_groundOf, Prod.ext_iff, and_assoc] using h
noncomputable def A_impl_increasing (a : List Int) : Option R := call G 133 [(slc cI a)] []
def en_impl_increasing : Bool → R := fun (a : Bool) => (B a, [])
theorem inj_impl_increasing : Inj en_impl_increasing := fun a b h => by
 simpa [en_impl_increasing, Prod.ext_iff, and_assoc] using h
noncomputable def A_cf_impl_areSources_1 (a : DBoard) (b : List Int) : Option R := call G 37 [(slc cI b), (.clo 134 [(AV.ptr (Id.l 0) none 0)])] [(Id.l 0, bl (cBoard a))]
def en_cf_impl_areSources_1 : Bool × DBoard → R := fun (a : Bool × DBoard) => (B a.fst, [(Id.l 0, bl (cBoard a.snd))])
theorem inj_cf_impl_areSources_1 : Inj en_cf_impl_areSources_1 := fun a b h => by
 simpa [en_cf_impl_areSources_1, Prod.ext_iff, and_assoc] using h
noncomputable def A_impl_openFor (c : DBoard) (d : DState) (a b : Int) : Option R := call G 158 [(.agg (cBoard c)), (.agg (cState d)), (I a), (I b)] []
def en_impl_openFor : List Bool → R := fun (a : List Bool) => (AV.own (Id.r 0 0) none 0 a.length a.length, [(Id.r 0 0, some (rowB true false 1 cB a))])
theorem inj_impl_openFor : Inj en_impl_openFor := fun a b h => by
 first | (simpa [en_impl_openFor, Prod.ext_iff, and_assoc] using h) | (obtain _ := a; obtain _ := b; simp [en_impl_openFor] at h ⊢; simp_all; done) | (obtain _ := a; obtain _ := b; simp [en_impl_openFor] at h; obtain ⟨h1, h2⟩ := h; have h3 := List.append_inj h2.2.2 h1.2.1.1; simp_all) | (obtain _ := a; obtain _ := b; simp [en_impl_openFor] at h; obtain ⟨h1, h2⟩ := h; have h3 := List.append_inj h2.2 h1.1; simp_all)
noncomputable def A_impl_supplyWay (c : DBoard) (d : DUnit) (b : List Bool) (a : List Int) : Option R := call G 157 [(.agg (cBoard c)), (.agg (cUnit d)), (slc cB b), (slc cI a)] []
def en_impl_supplyWay : Int → R := fun (a : Int) => (I a, [])
theorem inj_impl_supplyWay : Inj en_impl_supplyWay := fun a b h => by
 simpa [en_impl_supplyWay, Prod.ext_iff, and_assoc] using h
noncomputable def A_impl_fits (a : DBoard) (b : DState) : Option R := call G 71 [(.agg (cBoard a)), (.agg (cState b))] []
def en_impl_fits : Bool → R := fun (a : Bool) => (B a, [])
theorem inj_impl_fits : Inj en_impl_fits := fun a b h => by
 simpa [en_impl_fits, Prod.ext_iff, and_assoc] using h
noncomputable def A_spec_zSources (b : DBoard) (c : DState) (a d : Int) : Option R := call G 162 [(.agg (cBoard b)), (.agg (cState c)), (I a), (I d)] []
def en_spec_zSources : List Int → R := fun (a : List Int) => (slc cI a, [])
theorem inj_spec_zSources : Inj en_spec_zSources := fun a b h => by
 simpa [en_spec_zSources, Prod.ext_iff, and_assoc] using h
noncomputable def A_spec_mHex (a : DMap) (b : Int) : Option R := call G 76 [(.agg (cMap a)), (I b)] []
def en_spec_mHex : DHex → R := fun (a : DHex) => (AV.agg (cHex a), [])
theorem inj_spec_mHex : Inj en_spec_mHex := fun a b h => by
 simpa [en_spec_mHex, Prod.ext_iff, and_assoc] using h
noncomputable def A_spec_hStep (a : DHex) (b : Int) : Option R := call G 75 [(.agg (cHex a)), (I b)] []
def en_spec_hStep : DHex → R := fun (a : DHex) => (AV.agg (cHex a), [])
theorem inj_spec_hStep : Inj en_spec_hStep := fun a b h => by
 simpa [en_spec_hStep, Prod.ext_iff, and_assoc] using h
noncomputable def A_spec_mIndex (a : DMap) (b : DHex) : Option R := call G 74 [(.agg (cMap a)), (.agg (cHex b))] []
def en_spec_mIndex : Int → R := fun (a : Int) => (I a, [])
theorem inj_spec_mIndex : Inj en_spec_mIndex := fun a b h => by
 simpa [en_spec_mIndex, Prod.ext_iff, and_assoc] using h
noncomputable def A_spec_mEdge (a : DMap) (b c : Int) : Option R := call G 149 [(.agg (cMap a)), (I b), (I c)] []
def en_spec_mEdge : Int → R := fun (a : Int) => (I a, [])
theorem inj_spec_mEdge : Inj en_spec_mEdge := fun a b h => by
 simpa [en_spec_mEdge, Prod.ext_iff, and_assoc] using h
noncomputable def A_spec_l1Has (a : List Int) (b : Int) : Option R := call G 86 [(slc cI a), (I b)] []
def en_spec_l1Has : Bool → R := fun (a : Bool) => (B a, [])
theorem inj_spec_l1Has : Inj en_spec_l1Has := fun a b h => by
 simpa [en_spec_l1Has, Prod.ext_iff, and_assoc] using h
noncomputable def A_impl_goodTerrain (b : DTerrain) (a : Int) : Option R := call G 152 [(.agg (cTerrain b)), (I a)] []
def en_impl_goodTerrain : Bool → R := fun (a : Bool) => (B a, [])
theorem inj_impl_goodTerrain : Inj en_impl_goodTerrain := fun a b h => by
 simpa [en_impl_goodTerrain, Prod.ext_iff, and_assoc] using h
noncomputable def A_impl_terrainIndex (a : List DTerrain) (b : ByteArray) : Option R := call G 153 [(slc cTerrain a), (S b)] []
def en_impl_terrainIndex : Int → R := fun (a : Int) => (I a, [])
theorem inj_impl_terrainIndex : Inj en_impl_terrainIndex := fun a b h => by
 simpa [en_impl_terrainIndex, Prod.ext_iff, and_assoc] using h
noncomputable def A_spec_mRiver (a : DMap) (b c : Int) : Option R := call G 119 [(.agg (cMap a)), (I b), (I c)] []
def en_spec_mRiver : Bool → R := fun (a : Bool) => (B a, [])
theorem inj_spec_mRiver : Inj en_spec_mRiver := fun a b h => by
 simpa [en_spec_mRiver, Prod.ext_iff, and_assoc] using h
noncomputable def A_slices_Index_int (a : List Int) (b : Int) : Option R := call G 148 [(slc cI a), (I b)] []
def en_slices_Index_int : Int → R := fun (a : Int) => (I a, [])
theorem inj_slices_Index_int : Inj en_slices_Index_int := fun a b h => by
 simpa [en_slices_Index_int, Prod.ext_iff, and_assoc] using h
noncomputable def A_sc_place (a : Dl1Cur) (b : DMap) : Option R := call G 68 [(AV.ptr (Id.l 0) none 0), (.agg (cMap b))] [(Id.l 0, bl (cl1Cur a))]
def en_sc_place : Int × Dl1Cur → R := fun (a : Int × Dl1Cur) => (I a.fst, [(Id.l 0, bl (cl1Cur a.snd))])
theorem inj_sc_place : Inj en_sc_place := fun a b h => by
 simpa [en_sc_place, Prod.ext_iff, and_assoc] using h
noncomputable def A_spec_l1All (c : List Int) (a b : Int) : Option R := call G 104 [(slc cI c), (I a), (I b)] []
def en_spec_l1All : Bool → R := fun (a : Bool) => (B a, [])
theorem inj_spec_l1All : Inj en_spec_l1All := fun a b h => by
 simpa [en_spec_l1All, Prod.ext_iff, and_assoc] using h
noncomputable def A_spec_jIn (b : DBoard) (c : DState) (d : Int) (a : List Int) : Option R := call G 101 [(.agg (cBoard b)), (.agg (cState c)), (I d), (slc cI a)] []
def en_spec_jIn : Bool → R := fun (a : Bool) => (B a, [])
theorem inj_spec_jIn : Inj en_spec_jIn := fun a b h => by
 simpa [en_spec_jIn, Prod.ext_iff, and_assoc] using h
noncomputable def A_spec_uWorth (b : DBoard) (c : DState) (d : Int) (a : Bool) : Option R := call G 100 [(.agg (cBoard b)), (.agg (cState c)), (I d), (B a)] []
def en_spec_uWorth : Int → R := fun (a : Int) => (I a, [])
theorem inj_spec_uWorth : Inj en_spec_uWorth := fun a b h => by
 simpa [en_spec_uWorth, Prod.ext_iff, and_assoc] using h
noncomputable def A_spec_zControl (a : DBoard) (b : DState) (c : Int) : Option R := call G 114 [(.agg (cBoard a)), (.agg (cState b)), (I c)] []
def en_spec_zControl : Int → R := fun (a : Int) => (I a, [])
theorem inj_spec_zControl : Inj en_spec_zControl := fun a b h => by
 simpa [en_spec_zControl, Prod.ext_iff, and_assoc] using h
noncomputable def A_xf_impl_IsBoard_1 (a : DBoard) (b : List Int) : Option R := call G 73 [(slc cI b), (.clo 129 [(AV.ptr (Id.l 0) none 0)])] [(Id.l 0, bl (cBoard a))]
def en_xf_impl_IsBoard_1 : Int × DBoard → R := fun (a : Int × DBoard) => (I a.fst, [(Id.l 0, bl (cBoard a.snd))])
theorem inj_xf_impl_IsBoard_1 : Inj en_xf_impl_IsBoard_1 := fun a b h => by
 simpa [en_xf_impl_IsBoard_1, Prod.ext_iff, and_assoc] using h
noncomputable def A_xf_impl_areSources_1 (a : DBoard) (b : List Int) : Option R := call G 73 [(slc cI b), (.clo 134 [(AV.ptr (Id.l 0) none 0)])] [(Id.l 0, bl (cBoard a))]
def en_xf_impl_areSources_1 : Int × DBoard → R := fun (a : Int × DBoard) => (I a.fst, [(Id.l 0, bl (cBoard a.snd))])
theorem inj_xf_impl_areSources_1 : Inj en_xf_impl_areSources_1 := fun a b h => by
 simpa [en_xf_impl_areSources_1, Prod.ext_iff, and_assoc] using h
noncomputable def A_impl_goodKind (a : DKind) : Option R := call G 154 [(.agg (cKind a))] []
def en_impl_goodKind : Bool → R := fun (a : Bool) => (B a, [])
theorem inj_impl_goodKind : Inj en_impl_goodKind := fun a b h => by
 simpa [en_impl_goodKind, Prod.ext_iff, and_assoc] using h
noncomputable def A_impl_kindIndex (a : List DKind) (b : ByteArray) : Option R := call G 155 [(slc cKind a), (S b)] []
def en_impl_kindIndex : Int → R := fun (a : Int) => (I a, [])
theorem inj_impl_kindIndex : Inj en_impl_kindIndex := fun a b h => by
 simpa [en_impl_kindIndex, Prod.ext_iff, and_assoc] using h
noncomputable def A_impl_IsBoard_1 (a : DBoard) (b : Int) : Option R := call G 129 [(I b), (AV.ptr (Id.l 0) none 0)] [(Id.l 0, bl (cBoard a))]
def en_impl_IsBoard_1 : Bool × DBoard → R := fun (a : Bool × DBoard) => (B a.fst, [(Id.l 0, bl (cBoard a.snd))])
theorem inj_impl_IsBoard_1 : Inj en_impl_IsBoard_1 := fun a b h => by
 simpa [en_impl_IsBoard_1, Prod.ext_iff, and_assoc] using h
noncomputable def A_impl_areSources_1 (a : DBoard) (b : Int) : Option R := call G 134 [(I b), (AV.ptr (Id.l 0) none 0)] [(Id.l 0, bl (cBoard a))]
def en_impl_areSources_1 : Bool × DBoard → R := fun (a : Bool × DBoard) => (B a.fst, [(Id.l 0, bl (cBoard a.snd))])
theorem inj_impl_areSources_1 : Inj en_impl_areSources_1 := fun a b h => by
 simpa [en_impl_areSources_1, Prod.ext_iff, and_assoc] using h
noncomputable def A_spec_rGood (a : DRules) : Option R := call G 102 [(.agg (cRules a))] []
def en_spec_rGood : Bool → R := fun (a : Bool) => (B a, [])
theorem inj_spec_rGood : Inj en_spec_rGood := fun a b h => by
 simpa [en_spec_rGood, Prod.ext_iff, and_assoc] using h
noncomputable def A_spec_jFar (c : DMap) (b : List Bool) (a : List Int) : Option R := call G 160 [(.agg (cMap c)), (slc cB b), (slc cI a)] []
def en_spec_jFar : List Int → R := fun (a : List Int) => (slc cI a, [])
theorem inj_spec_jFar : Inj en_spec_jFar := fun a b h => by
 simpa [en_spec_jFar, Prod.ext_iff, and_assoc] using h
noncomputable def A_impl_spread (c : DMap) (a : List Bool) (b : List Int) : Option R := call G 169 [(.agg (cMap c)), (slc cB a), (slc cI b)] []
def en_impl_spread : List Int → R := fun (a : List Int) => (slc cI a, [])
theorem inj_impl_spread : Inj en_impl_spread := fun a b h => by
 simpa [en_impl_spread, Prod.ext_iff, and_assoc] using h
noncomputable def A_sc_anyRules (a : Dl1Cur) : Option R := call G 125 [(AV.ptr (Id.l 0) none 0)] [(Id.l 0, bl (cl1Cur a))]
noncomputable def A_sc_anyMap (a : Dl1Cur) : Option R := call G 126 [(AV.ptr (Id.l 0) none 0)] [(Id.l 0, bl (cl1Cur a))]
noncomputable def A_impl_valueOf (b : DSetup) (c : DState) (a : Int) : Option R := call G 24 [(.agg (cSetup b)), (.agg (cState c)), (I a)] []
def en_impl_valueOf : Int → R := fun (a : Int) => (I a, [])
theorem inj_impl_valueOf : Inj en_impl_valueOf := fun a b h => by
 simpa [en_impl_valueOf, Prod.ext_iff, and_assoc] using h
noncomputable def A_spec_mGood (a : DMap) : Option R := call G 103 [(.agg (cMap a))] []
def en_spec_mGood : Bool → R := fun (a : Bool) => (B a, [])
theorem inj_spec_mGood : Inj en_spec_mGood := fun a b h => by
 simpa [en_spec_mGood, Prod.ext_iff, and_assoc] using h
noncomputable def A_spec_l1Rising (c : List Int) (a b : Int) : Option R := call G 106 [(slc cI c), (I a), (I b)] []
def en_spec_l1Rising : Bool → R := fun (a : Bool) => (B a, [])
theorem inj_spec_l1Rising : Inj en_spec_l1Rising := fun a b h => by
 simpa [en_spec_l1Rising, Prod.ext_iff, and_assoc] using h
noncomputable def A_spec_jUnit (b : DBoard) (c : DState) (d : Int) (a : List Int) : Option R := call G 137 [(.agg (cBoard b)), (.agg (cState c)), (I d), (slc cI a)] []
def en_spec_jUnit : List Bool × List Int → R := fun (a : List Bool × List Int) => (AV.tup [slc cB a.fst, slc cI a.snd], [])
theorem inj_spec_jUnit : Inj en_spec_jUnit := fun a b h => by
 simpa [en_spec_jUnit, Prod.ext_iff, and_assoc] using h
noncomputable def A_impl_neighboursOn (a : DMap) (b : Int) : Option R := call G 36 [(.agg (cMap a)), (I b)] []
def en_impl_neighboursOn : List Int → R := fun (a : List Int) => (slc cI a, [])
theorem inj_impl_neighboursOn : Inj en_impl_neighboursOn := fun a b h => by
 simpa [en_impl_neighboursOn, Prod.ext_iff, and_assoc] using h
noncomputable def A_spec_jBlocked (b : DBoard) (c : DState) (a d : Int) : Option R := call G 171 [(.agg (cBoard b)), (.agg (cState c)), (I a), (I d)] []
def en_spec_jBlocked : Bool → R := fun (a : Bool) => (B a, [])
theorem inj_spec_jBlocked : Inj en_spec_jBlocked := fun a b h => by
 simpa [en_spec_jBlocked, Prod.ext_iff, and_assoc] using h
noncomputable def A_spec_uGround (b : DBoard) (c : DState) (a : Int) : Option R := call G 45 [(.agg (cBoard b)), (.agg (cState c)), (I a)] []
def en_spec_uGround : Int → R := fun (a : Int) => (I a, [])
theorem inj_spec_uGround : Inj en_spec_uGround := fun a b h => by
 simpa [en_spec_uGround, Prod.ext_iff, and_assoc] using h
noncomputable def A_spec_sOwner (a : DState) (b : Int) : Option R := call G 43 [(.agg (cState a)), (I b)] []
def en_spec_sOwner : Int → R := fun (a : Int) => (I a, [])
theorem inj_spec_sOwner : Inj en_spec_sOwner := fun a b h => by
 simpa [en_spec_sOwner, Prod.ext_iff, and_assoc] using h
noncomputable def A_impl_stepBy (a : DHex) (b c : Int) : Option R := call G 111 [(.agg (cHex a)), (I b), (I c)] []
def en_impl_stepBy : DHex → R := fun (a : DHex) => (AV.agg (cHex a), [])
theorem inj_impl_stepBy : Inj en_impl_stepBy := fun a b h => by
 simpa [en_impl_stepBy, Prod.ext_iff, and_assoc] using h
noncomputable def A_spec_uHas (a : DBoard) (b : DState) (c : Int) : Option R := call G 48 [(.agg (cBoard a)), (.agg (cState b)), (I c)] []
def en_spec_uHas : Bool → R := fun (a : Bool) => (B a, [])
theorem inj_spec_uHas : Inj en_spec_uHas := fun a b h => by
 simpa [en_spec_uHas, Prod.ext_iff, and_assoc] using h
noncomputable def A_spec_jSources (b : DBoard) (a : List Int) : Option R := call G 64 [(.agg (cBoard b)), (slc cI a)] []
def en_spec_jSources : Bool → R := fun (a : Bool) => (B a, [])
theorem inj_spec_jSources : Inj en_spec_jSources := fun a b h => by
 simpa [en_spec_jSources, Prod.ext_iff, and_assoc] using h
noncomputable def A_sc_of (b : Dl1Cur) (a : List ByteArray) : Option R := call G 151 [(AV.ptr (Id.l 0) none 0), (slc cS a)] [(Id.l 0, bl (cl1Cur b))]
def en_sc_of : ByteArray × Dl1Cur → R := fun (a : ByteArray × Dl1Cur) => (S a.fst, [(Id.l 0, bl (cl1Cur a.snd))])
theorem inj_sc_of : Inj en_sc_of := fun a b h => by
 simpa [en_sc_of, Prod.ext_iff, and_assoc] using h
noncomputable def A_spec_csWeather (a : Int) (b : Bool) : Option R := call G 118 [(I a), (B b)] []
def en_spec_csWeather : Int → R := fun (a : Int) => (I a, [])
theorem inj_spec_csWeather : Inj en_spec_csWeather := fun a b h => by
 simpa [en_spec_csWeather, Prod.ext_iff, and_assoc] using h
noncomputable def A_spec_l1Own (a : List Int) : Option R := call G 123 [(slc cI a)] []
noncomputable def A_spec_dSeed (a : Int) : Option R := call G 59 [(I a)] []
def en_spec_dSeed : Bool → R := fun (a : Bool) => (B a, [])
theorem inj_spec_dSeed : Inj en_spec_dSeed := fun a b h => by
 simpa [en_spec_dSeed, Prod.ext_iff, and_assoc] using h
noncomputable def A_sc_rules (a : Dl1Cur) : Option R := call G 120 [(AV.ptr (Id.l 0) none 0)] [(Id.l 0, bl (cl1Cur a))]
def en_sc_rules : (DRules × List DKind) × Dl1Cur → R := fun (a : (DRules × List DKind) × Dl1Cur) => (AV.agg [AV.own (Id.r 0 0) none 0 a.fst.fst.Terrains.length a.fst.fst.Terrains.length, AV.own (Id.r 0 1) none 0 a.fst.fst.Kinds.length (a.fst.fst.Kinds.length + a.fst.snd.length), I a.fst.fst.Stack, I a.fst.fst.River, I a.fst.fst.Road, I a.fst.fst.Supply, I a.fst.fst.Turns], [(Id.l 0, bl (cl1Cur a.snd)), (Id.r 0 0, some (rowB true true 5 cTerrainN a.fst.fst.Terrains)), (Id.r 0 1, some (rowB true false 6 cKind (a.fst.fst.Kinds ++ a.fst.snd)))])
theorem inj_sc_rules : Inj en_sc_rules := fun a b h => by
 first | (simpa [en_sc_rules, Prod.ext_iff, and_assoc] using h) | (obtain ⟨⟨⟨_, _, _, _, _, _, _⟩, _⟩, _⟩ := a; obtain ⟨⟨⟨_, _, _, _, _, _, _⟩, _⟩, _⟩ := b; simp [en_sc_rules] at h ⊢; simp_all; done) | (obtain ⟨⟨⟨_, _, _, _, _, _, _⟩, _⟩, _⟩ := a; obtain ⟨⟨⟨_, _, _, _, _, _, _⟩, _⟩, _⟩ := b; simp [en_sc_rules] at h; obtain ⟨h1, h2⟩ := h; have h3 := List.append_inj h2.2.2 h1.2.1.1; simp_all) | (obtain ⟨⟨⟨_, _, _, _, _, _, _⟩, _⟩, _⟩ := a; obtain ⟨⟨⟨_, _, _, _, _, _, _⟩, _⟩, _⟩ := b; simp [en_sc_rules] at h; obtain ⟨h1, h2⟩ := h; have h3 := List.append_inj h2.2 h1.1; simp_all)
noncomputable def A_spec_pFrom (d : DBoard) (c a e : Int) (b : List Int) : Option R := call G 49 [(.agg (cBoard d)), (I c), (I a), (I e), (slc cI b)] []
def en_spec_pFrom : List Int → R := fun (a : List Int) => (slc cI a, [])
theorem inj_spec_pFrom : Inj en_spec_pFrom := fun a b h => by
 simpa [en_spec_pFrom, Prod.ext_iff, and_assoc] using h
noncomputable def A_sc_mapOf (b : Dl1Cur) (a : Int) : Option R := call G 121 [(AV.ptr (Id.l 0) none 0), (I a)] [(Id.l 0, bl (cl1Cur b))]
def en_sc_mapOf : DMap × Dl1Cur → R := fun (a : DMap × Dl1Cur) => (AV.agg [I a.fst.Width, I a.fst.Height, AV.own (Id.r 0 0) none 0 a.fst.Terrain.length a.fst.Terrain.length, AV.own (Id.r 0 1) none 0 a.fst.Rivers.length a.fst.Rivers.length, AV.own (Id.r 0 2) none 0 a.fst.Roads.length a.fst.Roads.length], [(Id.l 0, bl (cl1Cur a.snd)), (Id.r 0 0, some (rowB true false 1 cI a.fst.Terrain)), (Id.r 0 1, some (rowB true false 1 cI a.fst.Rivers)), (Id.r 0 2, some (rowB true false 1 cI a.fst.Roads))])
theorem inj_sc_mapOf : Inj en_sc_mapOf := fun a b h => by
 first | (simpa [en_sc_mapOf, Prod.ext_iff, and_assoc] using h) | (obtain ⟨⟨_, _, _, _, _⟩, _⟩ := a; obtain ⟨⟨_, _, _, _, _⟩, _⟩ := b; simp [en_sc_mapOf] at h ⊢; simp_all; done) | (obtain ⟨⟨_, _, _, _, _⟩, _⟩ := a; obtain ⟨⟨_, _, _, _, _⟩, _⟩ := b; simp [en_sc_mapOf] at h; obtain ⟨h1, h2⟩ := h; have h3 := List.append_inj h2.2.2 h1.2.1.1; simp_all) | (obtain ⟨⟨_, _, _, _, _⟩, _⟩ := a; obtain ⟨⟨_, _, _, _, _⟩, _⟩ := b; simp [en_sc_mapOf] at h; obtain ⟨h1, h2⟩ := h; have h3 := List.append_inj h2.2 h1.1; simp_all)
noncomputable def A_impl_isGame (a : DSetup) (b : DState) : Option R := call G 22 [(.agg (cSetup a)), (.agg (cState b))] []
def en_impl_isGame : Bool → R := fun (a : Bool) => (B a, [])
theorem inj_impl_isGame : Inj en_impl_isGame := fun a b h => by
 simpa [en_impl_isGame, Prod.ext_iff, and_assoc] using h
noncomputable def A_impl_goodState (a : DBoard) (b : DState) : Option R := call G 31 [(.agg (cBoard a)), (.agg (cState b))] []
def en_impl_goodState : Bool → R := fun (a : Bool) => (B a, [])
theorem inj_impl_goodState : Inj en_impl_goodState := fun a b h => by
 simpa [en_impl_goodState, Prod.ext_iff, and_assoc] using h
noncomputable def A_impl_sideWorth (c : DBoard) (d : DState) (b : Int) (a : List Int) : Option R := call G 58 [(.agg (cBoard c)), (.agg (cState d)), (I b), (slc cI a)] []
def en_impl_sideWorth : Int → R := fun (a : Int) => (I a, [])
theorem inj_impl_sideWorth : Inj en_impl_sideWorth := fun a b h => by
 simpa [en_impl_sideWorth, Prod.ext_iff, and_assoc] using h
noncomputable def A_spec_mEdges (a : DMap) (b : List Int) : Option R := call G 141 [(.agg (cMap a)), (slc cI b)] []
def en_spec_mEdges : Bool → R := fun (a : Bool) => (B a, [])
theorem inj_spec_mEdges : Inj en_spec_mEdges := fun a b h => by
 simpa [en_spec_mEdges, Prod.ext_iff, and_assoc] using h
noncomputable def A_impl_isName (a : ByteArray) : Option R := call G 163 [(S a)] []
def en_impl_isName : Bool → R := fun (a : Bool) => (B a, [])
theorem inj_impl_isName : Inj en_impl_isName := fun a b h => by
 simpa [en_impl_isName, Prod.ext_iff, and_assoc] using h
noncomputable def A_cf_impl_goodTerrain_1 (a : List Int) : Option R := call G 37 [(slc cI a), (.clo 164 [])] []
def en_cf_impl_goodTerrain_1 : Bool → R := fun (a : Bool) => (B a, [])
theorem inj_cf_impl_goodTerrain_1 : Inj en_cf_impl_goodTerrain_1 := fun a b h => by
 simpa [en_cf_impl_goodTerrain_1, Prod.ext_iff, and_assoc] using h
noncomputable def A_spec_jOpen (c : DBoard) (d : DState) (a b : Int) : Option R := call G 159 [(.agg (cBoard c)), (.agg (cState d)), (I a), (I b)] []
def en_spec_jOpen : List Bool → R := fun (a : List Bool) => (slc cB a, [])
theorem inj_spec_jOpen : Inj en_spec_jOpen := fun a b h => by
 simpa [en_spec_jOpen, Prod.ext_iff, and_assoc] using h
noncomputable def A_sc_anyBoard (a : Dl1Cur) : Option R := call G 93 [(AV.ptr (Id.l 0) none 0)] [(Id.l 0, bl (cl1Cur a))]
def en_sc_anyBoard : DBoard × Dl1Cur → R := fun (a : DBoard × Dl1Cur) => (AV.agg (cBoard a.fst), [(Id.l 0, bl (cl1Cur a.snd))])
theorem inj_sc_anyBoard : Inj en_sc_anyBoard := fun a b h => by
 simpa [en_sc_anyBoard, Prod.ext_iff, and_assoc] using h
def en_sc_anyState : DState × Dl1Cur → R := fun (a : DState × Dl1Cur) => (AV.agg [I a.fst.Turn, I a.fst.Weather, AV.own (Id.r 0 0) none 0 a.fst.Units.length a.fst.Units.length], [(Id.l 0, bl (cl1Cur a.snd)), (Id.r 0 0, some (rowB true false 4 cUnit a.fst.Units))])
theorem inj_sc_anyState : Inj en_sc_anyState := fun a b h => by
 first | (simpa [en_sc_anyState, Prod.ext_iff, and_assoc] using h) | (obtain ⟨⟨_, _, _⟩, _⟩ := a; obtain ⟨⟨_, _, _⟩, _⟩ := b; simp [en_sc_anyState] at h ⊢; simp_all; done) | (obtain ⟨⟨_, _, _⟩, _⟩ := a; obtain ⟨⟨_, _, _⟩, _⟩ := b; simp [en_sc_anyState] at h; obtain ⟨h1, h2⟩ := h; have h3 := List.append_inj h2.2.2 h1.2.1.1; simp_all) | (obtain ⟨⟨_, _, _⟩, _⟩ := a; obtain ⟨⟨_, _, _⟩, _⟩ := b; simp [en_sc_anyState] at h; obtain ⟨h1, h2⟩ := h; have h3 := List.append_inj h2.2 h1.1; simp_all)
noncomputable def A_hT_impl_groundOf_1 (b : DBoard) (c : DState) (a : Int) (d : DBoard) : Option R := call G 77 [(.agg (cBoard d)), (.clo 78 [(AV.ptr (Id.l 0) none 0), (AV.ptr (Id.l 1) none 0), (AV.ptr (Id.l 2) none 0)])] [(Id.l 0, bl (cBoard b)), (Id.l 1, bl (cState c)), (Id.l 2, some ⟨false, false, false, 0, [(I a)]⟩)]
def en_hT_impl_groundOf_1 : List Int × DBoard × DState × Int → R := fun (a : List Int × DBoard × DState × Int) => (slc cI a.fst, [(Id.l 0, bl (cBoard a.snd.fst)), (Id.l 1, bl (cState a.snd.snd.fst)), (Id.l 2, bl [I a.snd.snd.snd])])
theorem inj_hT_impl_groundOf_1 : Inj en_hT_impl_groundOf_1 := fun a b h => by
 simpa [en_hT_impl_groundOf_1, Prod.ext_iff, and_assoc] using h
noncomputable def A_spec_rName (a : ByteArray) : Option R := call G 138 [(S a)] []
def en_spec_rName : Bool → R := fun (a : Bool) => (B a, [])
theorem inj_spec_rName : Inj en_spec_rName := fun a b h => by
 simpa [en_spec_rName, Prod.ext_iff, and_assoc] using h
noncomputable def A_spec_rTerrain (b : List DTerrain) (a : ByteArray) : Option R := call G 139 [(slc cTerrain b), (S a)] []
def en_spec_rTerrain : Int → R := fun (a : Int) => (I a, [])
theorem inj_spec_rTerrain : Inj en_spec_rTerrain := fun a b h => by
 simpa [en_spec_rTerrain, Prod.ext_iff, and_assoc] using h
noncomputable def A_impl_sumOf (a : List Int) : Option R := call G 132 [(slc cI a)] []
def en_impl_sumOf : Int → R := fun (a : Int) => (I a, [])
theorem inj_impl_sumOf : Inj en_impl_sumOf := fun a b h => by
 simpa [en_impl_sumOf, Prod.ext_iff, and_assoc] using h
noncomputable def A_xf_impl_goodTerrain_1 (a : List Int) : Option R := call G 73 [(slc cI a), (.clo 164 [])] []
def en_xf_impl_goodTerrain_1 : Int → R := fun (a : Int) => (I a, [])
theorem inj_xf_impl_goodTerrain_1 : Inj en_xf_impl_goodTerrain_1 := fun a b h => by
 simpa [en_xf_impl_goodTerrain_1, Prod.ext_iff, and_assoc] using h
noncomputable def A_spec_rKind (b : List DKind) (a : ByteArray) : Option R := call G 140 [(slc cKind b), (S a)] []
def en_spec_rKind : Int → R := fun (a : Int) => (I a, [])
theorem inj_spec_rKind : Inj en_spec_rKind := fun a b h => by
 simpa [en_spec_rKind, Prod.ext_iff, and_assoc] using h
noncomputable def A_impl_isEdge (b : DMap) (a : Int) : Option R := call G 156 [(.agg (cMap b)), (I a)] []
def en_impl_isEdge : Bool → R := fun (a : Bool) => (B a, [])
theorem inj_impl_isEdge : Inj en_impl_isEdge := fun a b h => by
 simpa [en_impl_isEdge, Prod.ext_iff, and_assoc] using h
noncomputable def A_impl_goodTerrain_1 (a : Int) : Option R := call G 164 [(I a)] []
def en_impl_goodTerrain_1 : Bool → R := fun (a : Bool) => (B a, [])
theorem inj_impl_goodTerrain_1 : Inj en_impl_goodTerrain_1 := fun a b h => by
 simpa [en_impl_goodTerrain_1, Prod.ext_iff, and_assoc] using h
noncomputable def A_impl_relaxed (e : DBoard) (c a f : Int) (d : Bool) (b : List Int) : Option R := call G 82 [(.agg (cBoard e)), (I c), (I a), (I f), (B d), (slc cI b)] []
def en_impl_relaxed : List Int → R := fun (a : List Int) => (slc cI a, [])
theorem inj_impl_relaxed : Inj en_impl_relaxed := fun a b h => by
 simpa [en_impl_relaxed, Prod.ext_iff, and_assoc] using h
noncomputable def A_spec_kGood (a : DCombatTable) : Option R := call G 62 [(.agg (cCombatTable a))] []
def en_spec_kGood : Bool → R := fun (a : Bool) => (B a, [])
theorem inj_spec_kGood : Inj en_spec_kGood := fun a b h => by
 simpa [en_spec_kGood, Prod.ext_iff, and_assoc] using h
noncomputable def A_spec_sUnit (a : DBoard) (b : DUnit) : Option R := call G 65 [(.agg (cBoard a)), (.agg (cUnit b))] []
def en_spec_sUnit : Bool → R := fun (a : Bool) => (B a, [])
theorem inj_spec_sUnit : Inj en_spec_sUnit := fun a b h => by
 simpa [en_spec_sUnit, Prod.ext_iff, and_assoc] using h
noncomputable def A_sc_climate (a : Dl1Cur) : Option R := call G 90 [(AV.ptr (Id.l 0) none 0)] [(Id.l 0, bl (cl1Cur a))]
def en_sc_climate : DClimate × Dl1Cur → R := fun (a : DClimate × Dl1Cur) => (AV.agg [AV.own (Id.r 0 0) none 0 a.fst.Weights.length a.fst.Weights.length], [(Id.l 0, bl (cl1Cur a.snd)), (Id.r 0 0, some (rowB true true 1 cLIN a.fst.Weights))])
theorem inj_sc_climate : Inj en_sc_climate := fun a b h => by
 first | (simpa [en_sc_climate, Prod.ext_iff, and_assoc] using h) | (obtain ⟨⟨_⟩, _⟩ := a; obtain ⟨⟨_⟩, _⟩ := b; simp [en_sc_climate] at h ⊢; simp_all; done) | (obtain ⟨⟨_⟩, _⟩ := a; obtain ⟨⟨_⟩, _⟩ := b; simp [en_sc_climate] at h; obtain ⟨h1, h2⟩ := h; have h3 := List.append_inj h2.2.2 h1.2.1.1; simp_all) | (obtain ⟨⟨_⟩, _⟩ := a; obtain ⟨⟨_⟩, _⟩ := b; simp [en_sc_climate] at h; obtain ⟨h1, h2⟩ := h; have h3 := List.append_inj h2.2 h1.1; simp_all)
noncomputable def A_sc_edges (a : Dl1Cur) (b : DMap) : Option R := call G 150 [(AV.ptr (Id.l 0) none 0), (.agg (cMap b))] [(Id.l 0, bl (cl1Cur a))]
noncomputable def A_impl_unitWorth (b : DBoard) (c : DState) (d : DUnit) (a : List Int) : Option R := call G 99 [(.agg (cBoard b)), (.agg (cState c)), (.agg (cUnit d)), (slc cI a)] []
def en_impl_unitWorth : Int → R := fun (a : Int) => (I a, [])
theorem inj_impl_unitWorth : Inj en_impl_unitWorth := fun a b h => by
 simpa [en_impl_unitWorth, Prod.ext_iff, and_assoc] using h
noncomputable def A_impl_reachFrom (a : DBoard) (b : DState) (c : DUnit) : Option R := call G 47 [(.agg (cBoard a)), (.agg (cState b)), (.agg (cUnit c))] []
def en_impl_reachFrom : List Int → R := fun (a : List Int) => (slc cI a, [])
theorem inj_impl_reachFrom : Inj en_impl_reachFrom := fun a b h => by
 simpa [en_impl_reachFrom, Prod.ext_iff, and_assoc] using h
noncomputable def A_impl_forceOf (a : DBoard) (b : DUnit) : Option R := call G 135 [(.agg (cBoard a)), (.agg (cUnit b))] []
def en_impl_forceOf : Int → R := fun (a : Int) => (I a, [])
theorem inj_impl_forceOf : Inj en_impl_forceOf := fun a b h => by
 simpa [en_impl_forceOf, Prod.ext_iff, and_assoc] using h
noncomputable def A_spec_kRows (a : Int) : Option R := call G 105 [(I a)] []
def en_spec_kRows : Int → R := fun (a : Int) => (I a, [])
theorem inj_spec_kRows : Inj en_spec_kRows := fun a b h => by
 simpa [en_spec_kRows, Prod.ext_iff, and_assoc] using h
noncomputable def A_spec_fgSide (b : DBoard) (c : DState) (a : Int) : Option R := call G 40 [(.agg (cBoard b)), (.agg (cState c)), (I a)] []
def en_spec_fgSide : Bool → R := fun (a : Bool) => (B a, [])
theorem inj_spec_fgSide : Inj en_spec_fgSide := fun a b h => by
 simpa [en_spec_fgSide, Prod.ext_iff, and_assoc] using h
def en_sc_match : (DSetup × DState) × Dl1Cur → R := fun (a : (DSetup × DState) × Dl1Cur) => (AV.tup [AV.agg (cSetup a.fst.fst), AV.agg (cState a.fst.snd)], [(Id.l 0, bl (cl1Cur a.snd))])
theorem inj_sc_match : Inj en_sc_match := fun a b h => by
 simpa [en_sc_match, Prod.ext_iff, and_assoc] using h
noncomputable def A_spec_tGood (a : DSetup) : Option R := call G 28 [(.agg (cSetup a))] []
def en_spec_tGood : Bool → R := fun (a : Bool) => (B a, [])
theorem inj_spec_tGood : Inj en_spec_tGood := fun a b h => by
 simpa [en_spec_tGood, Prod.ext_iff, and_assoc] using h
def en_sc_moved : DState × Dl1Cur → R := fun (a : DState × Dl1Cur) => (AV.agg (cState a.fst), [(Id.l 0, bl (cl1Cur a.snd))])
theorem inj_sc_moved : Inj en_sc_moved := fun a b h => by
 simpa [en_sc_moved, Prod.ext_iff, and_assoc] using h
def en_sc_anyRules : DRules × Dl1Cur → R := fun (a : DRules × Dl1Cur) => (AV.agg (cRules a.fst), [(Id.l 0, bl (cl1Cur a.snd))])
theorem inj_sc_anyRules : Inj en_sc_anyRules := fun a b h => by
 simpa [en_sc_anyRules, Prod.ext_iff, and_assoc] using h
def en_sc_anyMap : DMap × Dl1Cur → R := fun (a : DMap × Dl1Cur) => (AV.agg (cMap a.fst), [(Id.l 0, bl (cl1Cur a.snd))])
theorem inj_sc_anyMap : Inj en_sc_anyMap := fun a b h => by
 simpa [en_sc_anyMap, Prod.ext_iff, and_assoc] using h
noncomputable def A_hT_impl_reachFrom_1 (a : List Int) (b : DBoard) (c : DUnit) (d : DBoard) : Option R := call G 77 [(.agg (cBoard d)), (.clo 83 [(AV.ptr (Id.l 0) none 0), (AV.ptr (Id.l 1) none 0), (AV.ptr (Id.l 2) none 0)])] [(Id.l 0, some ⟨false, false, false, 0, [(slc cI a)]⟩), (Id.l 1, bl (cBoard b)), (Id.l 2, bl (cUnit c))]
def en_hT_impl_reachFrom_1 : List Int × List Int × DBoard × DUnit → R := fun (a : List Int × List Int × DBoard × DUnit) => (slc cI a.fst, [(Id.l 0, bl [slc cI a.snd.fst]), (Id.l 1, bl (cBoard a.snd.snd.fst)), (Id.l 2, bl (cUnit a.snd.snd.snd))])
theorem inj_hT_impl_reachFrom_1 : Inj en_hT_impl_reachFrom_1 := fun a b h => by
 simpa [en_hT_impl_reachFrom_1, Prod.ext_iff, and_assoc] using h
noncomputable def A_slices_IndexFunc_Terrain_of_impl_terrainIndex_1 (a : ByteArray) (b : List DTerrain) : Option R := call G 165 [(slc cTerrain b), (.clo 166 [(AV.ptr (Id.l 0) none 0)])] [(Id.l 0, some ⟨false, false, false, 0, [(S a)]⟩)]
def en_slices_IndexFunc_Terrain_of_impl_terrainIndex_1 : Int × ByteArray → R := fun (a : Int × ByteArray) => (I a.fst, [(Id.l 0, bl [S a.snd])])
theorem inj_slices_IndexFunc_Terrain_of_impl_terrainIndex_1 : Inj en_slices_IndexFunc_Terrain_of_impl_terrainIndex_1 := fun a b h => by
 simpa [en_slices_IndexFunc_Terrain_of_impl_terrainIndex_1, Prod.ext_iff, and_assoc] using h
noncomputable def A_impl_goodUnit (a : DBoard) (b : DUnit) : Option R := call G 70 [(.agg (cBoard a)), (.agg (cUnit b))] []
def en_impl_goodUnit : Bool → R := fun (a : Bool) => (B a, [])
theorem inj_impl_goodUnit : Inj en_impl_goodUnit := fun a b h => by
 simpa [en_impl_goodUnit, Prod.ext_iff, and_assoc] using h
noncomputable def A_spec_l1Least (a b : Int) : Option R := call G 122 [(I a), (I b)] []
def en_spec_l1Least : Int → R := fun (a : Int) => (I a, [])
theorem inj_spec_l1Least : Inj en_spec_l1Least := fun a b h => by
 simpa [en_spec_l1Least, Prod.ext_iff, and_assoc] using h
def en_spec_l1Own : List Int → R := fun (a : List Int) => (AV.own (Id.r 0 0) none 0 a.length a.length, [(Id.r 0 0, some (rowB true false 1 cI a))])
theorem inj_spec_l1Own : Inj en_spec_l1Own := fun a b h => by
 first | (simpa [en_spec_l1Own, Prod.ext_iff, and_assoc] using h) | (obtain _ := a; obtain _ := b; simp [en_spec_l1Own] at h ⊢; simp_all; done) | (obtain _ := a; obtain _ := b; simp [en_spec_l1Own] at h; obtain ⟨h1, h2⟩ := h; have h3 := List.append_inj h2.2.2 h1.2.1.1; simp_all) | (obtain _ := a; obtain _ := b; simp [en_spec_l1Own] at h; obtain ⟨h1, h2⟩ := h; have h3 := List.append_inj h2.2 h1.1; simp_all)
noncomputable def A_cf_impl_FrontUnits_1 (b : DState) (a : Int) (c : List Int) : Option R := call G 37 [(slc cI c), (.clo 38 [(AV.ptr (Id.l 0) none 0), (AV.ptr (Id.l 1) none 0)])] [(Id.l 0, bl (cState b)), (Id.l 1, some ⟨false, false, false, 0, [(I a)]⟩)]
def en_cf_impl_FrontUnits_1 : Bool × DState × Int → R := fun (a : Bool × DState × Int) => (B a.fst, [(Id.l 0, bl (cState a.snd.fst)), (Id.l 1, bl [I a.snd.snd])])
theorem inj_cf_impl_FrontUnits_1 : Inj en_cf_impl_FrontUnits_1 := fun a b h => by
 simpa [en_cf_impl_FrontUnits_1, Prod.ext_iff, and_assoc] using h
noncomputable def A_spec_l1Put (a : List Int) (b c d : Nat) (e : Int) : Option R := call G 124 [(.own (Id.l 0) none b c d), (I e)] [(Id.l 0, some (rowB false false 1 cI a))]
def en_spec_l1Put : Nat × List Int → R := fun (a : Nat × List Int) => (AV.own (Id.l 0) none 0 a.fst a.fst, [(Id.l 0, some (rowB false false 1 cI a.snd))])
theorem inj_spec_l1Put : Inj en_spec_l1Put := fun a b h => by
 simpa [en_spec_l1Put, Prod.ext_iff, and_assoc] using h
def en2_spec_l1Put : List Int × List Int → R := fun (a : List Int × List Int) => (AV.own (Id.r 0 0) none 0 a.fst.length a.fst.length, [(Id.l 0, some (rowB false false 1 cI a.snd)), (Id.r 0 0, some (rowB true false 1 cI a.fst))])
theorem inj2_spec_l1Put : Inj en2_spec_l1Put := fun a b h => by
 first | (simpa [en2_spec_l1Put, Prod.ext_iff, and_assoc] using h) | (obtain ⟨_, _⟩ := a; obtain ⟨_, _⟩ := b; simp [en2_spec_l1Put] at h ⊢; simp_all; done) | (obtain ⟨_, _⟩ := a; obtain ⟨_, _⟩ := b; simp [en2_spec_l1Put] at h; obtain ⟨h1, h2⟩ := h; have h3 := List.append_inj h2.2.2 h1.2.1.1; simp_all) | (obtain ⟨_, _⟩ := a; obtain ⟨_, _⟩ := b; simp [en2_spec_l1Put] at h; obtain ⟨h1, h2⟩ := h; have h3 := List.append_inj h2.2 h1.1; simp_all)
noncomputable def cl_spec_l1Put {γ : Type} (ml_0 : List Int) (l0o : Nat) (l0n : Nat) (l0k : Nat) (n1 : Int) (k : Nat × List Int → Option γ) (k' : List Int × List Int → Option γ) : Option γ := cl2 en_spec_l1Put en2_spec_l1Put (call G) 124 [(.own (Id.l 0) none l0o l0n l0k), (I n1)] [(Id.l 0, some (rowB false false 1 cI ml_0))] k k'
theorem k_spec_l1Put {γ : Type} (ml_0 : List Int) (l0o : Nat) (l0n : Nat) (l0k : Nat) (n1 : Int) {v : Nat × List Int} (h : A_spec_l1Put ml_0 l0o l0n l0k n1 = some (en_spec_l1Put v)) (k : Nat × List Int → Option γ) (k' : List Int × List Int → Option γ) : cl_spec_l1Put ml_0 l0o l0n l0k n1 k k' = k v := cl2_a inj_spec_l1Put h k k'
theorem k2_spec_l1Put {γ : Type} (ml_0 : List Int) (l0o : Nat) (l0n : Nat) (l0k : Nat) (n1 : Int) {v : List Int × List Int} (h : A_spec_l1Put ml_0 l0o l0n l0k n1 = some (en2_spec_l1Put v)) (k : Nat × List Int → Option γ) (k' : List Int × List Int → Option γ) : cl_spec_l1Put ml_0 l0o l0n l0k n1 k k' = k' v := cl2_b inj2_spec_l1Put (fun a b e => by simp [en_spec_l1Put, en2_spec_l1Put] at e) h k k'
noncomputable def A_xf_impl_FrontUnits_1 (b : DState) (a : Int) (c : List Int) : Option R := call G 73 [(slc cI c), (.clo 38 [(AV.ptr (Id.l 0) none 0), (AV.ptr (Id.l 1) none 0)])] [(Id.l 0, bl (cState b)), (Id.l 1, some ⟨false, false, false, 0, [(I a)]⟩)]
def en_xf_impl_FrontUnits_1 : Int × DState × Int → R := fun (a : Int × DState × Int) => (I a.fst, [(Id.l 0, bl (cState a.snd.fst)), (Id.l 1, bl [I a.snd.snd])])
theorem inj_xf_impl_FrontUnits_1 : Inj en_xf_impl_FrontUnits_1 := fun a b h => by
 simpa [en_xf_impl_FrontUnits_1, Prod.ext_iff, and_assoc] using h
noncomputable def A_impl_terrainIndex_1 (a : ByteArray) (b : DTerrain) : Option R := call G 166 [(.agg (cTerrain b)), (AV.ptr (Id.l 0) none 0)] [(Id.l 0, some ⟨false, false, false, 0, [(S a)]⟩)]
def en_impl_terrainIndex_1 : Bool × ByteArray → R := fun (a : Bool × ByteArray) => (B a.fst, [(Id.l 0, bl [S a.snd])])
theorem inj_impl_terrainIndex_1 : Inj en_impl_terrainIndex_1 := fun a b h => by
 simpa [en_impl_terrainIndex_1, Prod.ext_iff, and_assoc] using h
noncomputable def A_impl_FrontUnits_1 (b : DState) (a c : Int) : Option R := call G 38 [(I c), (AV.ptr (Id.l 0) none 0), (AV.ptr (Id.l 1) none 0)] [(Id.l 0, bl (cState b)), (Id.l 1, some ⟨false, false, false, 0, [(I a)]⟩)]
def en_impl_FrontUnits_1 : Bool × DState × Int → R := fun (a : Bool × DState × Int) => (B a.fst, [(Id.l 0, bl (cState a.snd.fst)), (Id.l 1, bl [I a.snd.snd])])
theorem inj_impl_FrontUnits_1 : Inj en_impl_FrontUnits_1 := fun a b h => by
 simpa [en_impl_FrontUnits_1, Prod.ext_iff, and_assoc] using h
noncomputable def A_sc_combatTable (a : Dl1Cur) : Option R := call G 92 [(AV.ptr (Id.l 0) none 0)] [(Id.l 0, bl (cl1Cur a))]
def en_sc_combatTable : DCombatTable × Dl1Cur → R := fun (a : DCombatTable × Dl1Cur) => (AV.agg (cCombatTable a.fst), [(Id.l 0, bl (cl1Cur a.snd))])
theorem inj_sc_combatTable : Inj en_sc_combatTable := fun a b h => by
 simpa [en_sc_combatTable, Prod.ext_iff, and_assoc] using h
noncomputable def A_sc_sources (a : Dl1Cur) (b : DBoard) (c : DState) : Option R := call G 91 [(AV.ptr (Id.l 0) none 0), (.agg (cBoard b)), (.agg (cState c))] [(Id.l 0, bl (cl1Cur a))]
def en_sc_sources : (List Int × List Int) × Dl1Cur → R := fun (a : (List Int × List Int) × Dl1Cur) => (AV.own (Id.r 0 0) none 0 a.fst.fst.length (a.fst.fst.length + a.fst.snd.length), [(Id.l 0, bl (cl1Cur a.snd)), (Id.r 0 0, some (rowB true false 1 cI (a.fst.fst ++ a.fst.snd)))])
theorem inj_sc_sources : Inj en_sc_sources := fun a b h => by
 first | (simpa [en_sc_sources, Prod.ext_iff, and_assoc] using h) | (obtain ⟨⟨_, _⟩, _⟩ := a; obtain ⟨⟨_, _⟩, _⟩ := b; simp [en_sc_sources] at h ⊢; simp_all; done) | (obtain ⟨⟨_, _⟩, _⟩ := a; obtain ⟨⟨_, _⟩, _⟩ := b; simp [en_sc_sources] at h; obtain ⟨h1, h2⟩ := h; have h3 := List.append_inj h2.2.2 h1.2.1.1; simp_all) | (obtain ⟨⟨_, _⟩, _⟩ := a; obtain ⟨⟨_, _⟩, _⟩ := b; simp [en_sc_sources] at h; obtain ⟨h1, h2⟩ := h; have h3 := List.append_inj h2.2 h1.1; simp_all)
noncomputable def A_impl_controls (a : DBoard) (b : DUnit) (c : Int) : Option R := call G 161 [(.agg (cBoard a)), (.agg (cUnit b)), (I c)] []
def en_impl_controls : Bool → R := fun (a : Bool) => (B a, [])
theorem inj_impl_controls : Inj en_impl_controls := fun a b h => by
 simpa [en_impl_controls, Prod.ext_iff, and_assoc] using h
noncomputable def A_spec_cStep (c : DBoard) (b d e a : Int) : Option R := call G 85 [(.agg (cBoard c)), (I b), (I d), (I e), (I a)] []
def en_spec_cStep : Int → R := fun (a : Int) => (I a, [])
theorem inj_spec_cStep : Inj en_spec_cStep := fun a b h => by
 simpa [en_spec_cStep, Prod.ext_iff, and_assoc] using h
noncomputable def A_impl_holderOf (a : DBoard) (b : DState) (c : Int) : Option R := call G 79 [(.agg (cBoard a)), (.agg (cState b)), (I c)] []
def en_impl_holderOf : Int → R := fun (a : Int) => (I a, [])
theorem inj_impl_holderOf : Inj en_impl_holderOf := fun a b h => by
 simpa [en_impl_holderOf, Prod.ext_iff, and_assoc] using h
noncomputable def A_impl_crossesFreely (b : DMap) (a : Int) : Option R := call G 172 [(.agg (cMap b)), (I a)] []
def en_impl_crossesFreely : Bool → R := fun (a : Bool) => (B a, [])
theorem inj_impl_crossesFreely : Inj en_impl_crossesFreely := fun a b h => by
 simpa [en_impl_crossesFreely, Prod.ext_iff, and_assoc] using h
noncomputable def A_impl_terrainAt (a : DBoard) (b : Int) : Option R := call G 143 [(.agg (cBoard a)), (I b)] []
def en_impl_terrainAt : DTerrain → R := fun (a : DTerrain) => (AV.agg (cTerrain a), [])
theorem inj_impl_terrainAt : Inj en_impl_terrainAt := fun a b h => by
 simpa [en_impl_terrainAt, Prod.ext_iff, and_assoc] using h
noncomputable def A_impl_isResult (a : Int) : Option R := call G 131 [(I a)] []
def en_impl_isResult : Bool → R := fun (a : Bool) => (B a, [])
theorem inj_impl_isResult : Inj en_impl_isResult := fun a b h => by
 simpa [en_impl_isResult, Prod.ext_iff, and_assoc] using h
noncomputable def A_slices_IndexFunc_Kind_of_impl_kindIndex_1 (a : ByteArray) (b : List DKind) : Option R := call G 167 [(slc cKind b), (.clo 168 [(AV.ptr (Id.l 0) none 0)])] [(Id.l 0, some ⟨false, false, false, 0, [(S a)]⟩)]
def en_slices_IndexFunc_Kind_of_impl_kindIndex_1 : Int × ByteArray → R := fun (a : Int × ByteArray) => (I a.fst, [(Id.l 0, bl [S a.snd])])
theorem inj_slices_IndexFunc_Kind_of_impl_kindIndex_1 : Inj en_slices_IndexFunc_Kind_of_impl_kindIndex_1 := fun a b h => by
 simpa [en_slices_IndexFunc_Kind_of_impl_kindIndex_1, Prod.ext_iff, and_assoc] using h
def en_sc_edges : List Int × Dl1Cur → R := fun (a : List Int × Dl1Cur) => (AV.own (Id.r 0 0) none 0 a.fst.length a.fst.length, [(Id.l 0, bl (cl1Cur a.snd)), (Id.r 0 0, some (rowB true false 1 cI a.fst))])
theorem inj_sc_edges : Inj en_sc_edges := fun a b h => by
 first | (simpa [en_sc_edges, Prod.ext_iff, and_assoc] using h) | (obtain ⟨_, _⟩ := a; obtain ⟨_, _⟩ := b; simp [en_sc_edges] at h ⊢; simp_all; done) | (obtain ⟨_, _⟩ := a; obtain ⟨_, _⟩ := b; simp [en_sc_edges] at h; obtain ⟨h1, h2⟩ := h; have h3 := List.append_inj h2.2.2 h1.2.1.1; simp_all) | (obtain ⟨_, _⟩ := a; obtain ⟨_, _⟩ := b; simp [en_sc_edges] at h; obtain ⟨h1, h2⟩ := h; have h3 := List.append_inj h2.2 h1.1; simp_all)
noncomputable def A_cf_impl_IsCombatTable_1 (a : List Int) : Option R := call G 37 [(slc cI a), (.clo 130 [])] []
def en_cf_impl_IsCombatTable_1 : Bool → R := fun (a : Bool) => (B a, [])
theorem inj_cf_impl_IsCombatTable_1 : Inj en_cf_impl_IsCombatTable_1 := fun a b h => by
 simpa [en_cf_impl_IsCombatTable_1, Prod.ext_iff, and_assoc] using h
noncomputable def A_impl_kindIndex_1 (a : ByteArray) (b : DKind) : Option R := call G 168 [(.agg (cKind b)), (AV.ptr (Id.l 0) none 0)] [(Id.l 0, some ⟨false, false, false, 0, [(S a)]⟩)]
def en_impl_kindIndex_1 : Bool × ByteArray → R := fun (a : Bool × ByteArray) => (B a.fst, [(Id.l 0, bl [S a.snd])])
theorem inj_impl_kindIndex_1 : Inj en_impl_kindIndex_1 := fun a b h => by
 simpa [en_impl_kindIndex_1, Prod.ext_iff, and_assoc] using h
noncomputable def A_xf_impl_IsCombatTable_1 (a : List Int) : Option R := call G 73 [(slc cI a), (.clo 130 [])] []
def en_xf_impl_IsCombatTable_1 : Int → R := fun (a : Int) => (I a, [])
theorem inj_xf_impl_IsCombatTable_1 : Inj en_xf_impl_IsCombatTable_1 := fun a b h => by
 simpa [en_xf_impl_IsCombatTable_1, Prod.ext_iff, and_assoc] using h
noncomputable def A_impl_IsCombatTable_1 (a : Int) : Option R := call G 130 [(I a)] []
def en_impl_IsCombatTable_1 : Bool → R := fun (a : Bool) => (B a, [])
theorem inj_impl_IsCombatTable_1 : Inj en_impl_IsCombatTable_1 := fun a b h => by
 simpa [en_impl_IsCombatTable_1, Prod.ext_iff, and_assoc] using h
noncomputable def A_impl_groundOf_1 (b : DBoard) (c : DState) (a d : Int) : Option R := call G 78 [(I d), (AV.ptr (Id.l 0) none 0), (AV.ptr (Id.l 1) none 0), (AV.ptr (Id.l 2) none 0)] [(Id.l 0, bl (cBoard b)), (Id.l 1, bl (cState c)), (Id.l 2, some ⟨false, false, false, 0, [(I a)]⟩)]
def en_impl_groundOf_1 : Bool × DBoard × DState × Int → R := fun (a : Bool × DBoard × DState × Int) => (B a.fst, [(Id.l 0, bl (cBoard a.snd.fst)), (Id.l 1, bl (cState a.snd.snd.fst)), (Id.l 2, bl [I a.snd.snd.snd])])
theorem inj_impl_groundOf_1 : Inj en_impl_groundOf_1 := fun a b h => by
 simpa [en_impl_groundOf_1, Prod.ext_iff, and_assoc] using h
noncomputable def A_impl_reachFrom_1 (a : List Int) (b : DBoard) (c : DUnit) (d : Int) : Option R := call G 83 [(I d), (AV.ptr (Id.l 0) none 0), (AV.ptr (Id.l 1) none 0), (AV.ptr (Id.l 2) none 0)] [(Id.l 0, some ⟨false, false, false, 0, [(slc cI a)]⟩), (Id.l 1, bl (cBoard b)), (Id.l 2, bl (cUnit c))]
def en_impl_reachFrom_1 : Bool × List Int × DBoard × DUnit → R := fun (a : Bool × List Int × DBoard × DUnit) => (B a.fst, [(Id.l 0, bl [slc cI a.snd.fst]), (Id.l 1, bl (cBoard a.snd.snd.fst)), (Id.l 2, bl (cUnit a.snd.snd.snd))])
theorem inj_impl_reachFrom_1 : Inj en_impl_reachFrom_1 := fun a b h => by
 simpa [en_impl_reachFrom_1, Prod.ext_iff, and_assoc] using h
end Go.Ev
