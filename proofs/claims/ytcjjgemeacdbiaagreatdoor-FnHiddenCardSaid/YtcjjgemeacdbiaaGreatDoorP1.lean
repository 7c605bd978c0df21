/-
 P1: one of the texts behind a proof of laws.FnHidden: how each function that is reached is called; what its result is
 Its conditions: none of its own.
-/
import Derived.Test.YtcjjgemeacdbiaaGreatDoorEd
set_option maxRecDepth 100000
set_option linter.unusedVariables false
set_option linter.unusedSectionVars false
set_option linter.unusedSimpArgs false
set_option linter.unnecessarySimpa false
namespace Go.Ev
open Go Go.Proofs
variable [Inhabited Known]
noncomputable def L_spec_sGood_L4 (a : DBoard) (b : DState) (c : List DUnit) (d e : Int) : Option R := lpK G T 69 Tryz.f69 [1, 1, 0, 1, 0] (js 2 ((AV.ptr (Id.h 2 0) none 0) :: (AV.ptr (Id.h 3 0) none 0) :: js 30 ((slc cUnit c) :: (I d) :: (I e) :: js 43 []))) [(Id.h 2 0, some ⟨false, true, false, 0, cBoard a⟩), (Id.h 3 0, some ⟨false, true, false, 0, cState b⟩)]
noncomputable def L_spec_HiddenThreat_L5 (a : DBoard) (b : DView) (c d e : Int) : Option R := lpK G T 14 Tryz.f14 [1, 1, 1, 0, 1, 0] (js 2 ((I c) :: (AV.ptr (Id.h 3 0) none 0) :: (AV.ptr (Id.h 4 0) none 0) :: js 3 ((I d) :: (I e) :: js 50 []))) [(Id.h 3 0, some ⟨false, true, false, 0, cBoard a⟩), (Id.h 4 0, some ⟨false, true, false, 0, cView b⟩)]
noncomputable def L_spec_yHide_L3 (a : List Int) (b : DBoard) (c : DView) (d : Int) (e : List Int) (f g : Int) : Option R := lpK G T 26 Tryz.f26 [1, 1, 0, 1, 0] (js 2 ((I d) :: (AV.ptr (Id.h 3 0) none 0) :: (AV.ptr (Id.h 4 0) none 0) :: js 2 ((.own (Id.h 7 0) none 0 a.length a.length) :: js 7 ((slc cI e) :: (I f) :: (I g) :: js 30 [])))) [(Id.h 3 0, some ⟨false, true, false, 0, cBoard b⟩), (Id.h 4 0, some ⟨false, true, false, 0, cView c⟩), (Id.h 7 0, some (rowB true false 1 cI a))]
noncomputable def L_sc_mapOf_L3 (a : List Int) (g : Dl1Cur) (c d e f b h : Int) : Option R := lpK G T 101 Tryz.f101 [1, 1, 0, 1, 0] ((AV.ptr (Id.l 0) none 0) :: (I b) :: js 2 ((AV.ptr (Id.h 4 0) none 0) :: (AV.ptr (Id.h 5 0) none 0) :: (I h) :: js 34 [])) [(Id.l 0, bl (cl1Cur g)), (Id.h 4 0, some ⟨false, true, false, 0, [(I c), (I d), .emp, .emp, .emp]⟩), (Id.h 5 0, some ⟨false, true, false, 0, [(I e), (I f), (.own (Id.h 5 1) none 0 a.length a.length), .emp, .emp]⟩), (Id.h 5 1, some (rowB true false 1 cI a))]
noncomputable def L_spec_mNear_L3 (a : List Int) (c : DMap) (d b e : Int) : Option R := lpK G T 129 Tryz.f129 [1, 1, 0, 1, 0] (js 1 ((I d) :: (I b) :: (AV.ptr (Id.h 3 0) none 0) :: js 3 ((.own (Id.h 7 0) none 0 a.length a.length) :: (I e) :: js 20 []))) [(Id.h 3 0, some ⟨false, true, false, 0, cMap c⟩), (Id.h 7 0, some (rowB true false 1 cI a))]
noncomputable def L_impl_isName_L2 (a : ByteArray) (b : Int) : Option R := lpK G T 120 Tryz.f120 [1, 0, 1, 0] ((S a) :: js 2 ((I b) :: js 19 [])) []
noncomputable def L_spec_rTerrain_L2 (a : ByteArray) (b : List DTerrain) (c d : Int) : Option R := lpK G T 110 Tryz.f110 [1, 0, 1, 0] (js 1 ((S a) :: js 5 ((slc cTerrain b) :: (I c) :: (I d) :: js 10 []))) []
noncomputable def L_spec_sGood_L10 (a : DBoard) (b : DState) (c : List DUnit) (d e : Int) : Option R := lpK G T 69 Tryz.f69 [1, 1, 1, 0, 1, 0] (js 2 ((AV.ptr (Id.h 2 0) none 0) :: (AV.ptr (Id.h 3 0) none 0) :: js 42 ((slc cUnit c) :: (I d) :: (I e) :: js 31 []))) [(Id.h 2 0, some ⟨false, true, false, 0, cBoard a⟩), (Id.h 3 0, some ⟨false, true, false, 0, cState b⟩)]
noncomputable def L_sc_state_L3 (h : List DUnit) (j : Dl1Cur) (i : DBoard) (d e f g : Int) (a b c : Nat) (k : Int) : Option R := lpK G T 68 Tryz.f68 [1, 1, 0, 1, 0] ((AV.ptr (Id.l 0) none 0) :: js 2 ((AV.ptr (Id.h 3 0) none 0) :: (AV.ptr (Id.h 4 0) none 0) :: (AV.ptr (Id.h 5 0) none 0) :: (I k) :: js 66 [])) [(Id.l 0, bl (cl1Cur j)), (Id.h 3 0, some ⟨false, true, false, 0, cBoard i⟩), (Id.h 4 0, some ⟨false, true, false, 0, [(I d), (I e), .emp]⟩), (Id.h 5 0, some ⟨false, true, false, 0, [(I f), (I g), (.own (Id.h 5 1) none a b c)]⟩), (Id.h 5 1, some (rowB true false 4 cUnit h))]
noncomputable def L_spec_HiddenThreat_L10 (b : DBoard) (c : DView) (g h i d : Int) (a : Bool) (e f : Int) : Option R := lpK G T 14 Tryz.f14 [1, 1, 1, 0, 1, 0, 0, 1, 0, 0, 1, 1, 0, 1, 0] (js 2 ((I g) :: (AV.ptr (Id.h 3 0) none 0) :: (AV.ptr (Id.h 4 0) none 0) :: js 3 ((I h) :: (I i) :: (I d) :: (B a) :: js 23 ((I e) :: (I f) :: js 23 [])))) [(Id.h 3 0, some ⟨false, true, false, 0, cBoard b⟩), (Id.h 4 0, some ⟨false, true, false, 0, cView c⟩)]
noncomputable def L_spec_yHide_L7 (a : List Int) (b : DBoard) (c : DView) (e l : Int) (d : Bool) (f : List Int) (g h : Int) (i : List DUnit) (j k : Int) : Option R := lpK G T 26 Tryz.f26 [1, 1, 0, 1, 0, 0, 1, 1, 0, 0, 1, 1, 0, 1, 0] (js 2 ((I e) :: (AV.ptr (Id.h 3 0) none 0) :: (AV.ptr (Id.h 4 0) none 0) :: js 2 ((.own (Id.h 7 0) none 0 a.length a.length) :: js 1 ((I l) :: (B d) :: js 4 ((slc cI f) :: (I g) :: (I h) :: js 9 ((slc cUnit i) :: (I j) :: (I k) :: js 18 [])))))) [(Id.h 3 0, some ⟨false, true, false, 0, cBoard b⟩), (Id.h 4 0, some ⟨false, true, false, 0, cView c⟩), (Id.h 7 0, some (rowB true false 1 cI a))]
noncomputable def L_xf_impl_goodTerrain_1_L2 (a : List Int) (b c : Int) : Option R := lpK G T 106 Tryz.f106 [1, 0, 1, 0] ((slc cI a) :: (.clo 121 []) :: js 5 ((I b) :: (I c) :: js 10 [])) []
noncomputable def L_spec_rGood_L4 (a : DRules) (b : List DTerrain) (c d : Int) : Option R := lpK G T 88 Tryz.f88 [1, 1, 0, 1, 0] (js 1 ((AV.ptr (Id.h 1 0) none 0) :: js 18 ((slc cTerrain b) :: (I c) :: (I d) :: js 114 []))) [(Id.h 1 0, some ⟨false, true, false, 0, cRules a⟩)]
noncomputable def L_spec_hCells_L5 (a : List DHex) (e f : Int) (b : List Int) (c d : Int) : Option R := lpK G T 138 Tryz.f138 [1, 1, 1, 0, 1, 0, 0, 1, 0] (js 3 ((I e) :: js 5 ((I f) :: js 1 ((.own (Id.h 11 0) none 0 a.length a.length) :: js 34 ((slc cI b) :: (I c) :: (I d) :: js 47 []))))) [(Id.h 11 0, some (rowB true false 2 cHex a))]
noncomputable def L_spec_hCells_L11 (a : List DHex) (f g b : Int) (c : List Int) (d e : Int) : Option R := lpK G T 138 Tryz.f138 [1, 1, 1, 1, 0, 1, 0] (js 3 ((I f) :: js 5 ((I g) :: (I b) :: (.own (Id.h 11 0) none 0 a.length a.length) :: js 52 ((slc cI c) :: (I d) :: (I e) :: js 29 [])))) [(Id.h 11 0, some (rowB true false 2 cHex a))]
noncomputable def L_spec_vCells_L4 (a : List (List Int)) (b : DBoard) (c : List (List DHex)) (d : Int) : Option R := lpK G T 133 Tryz.f133 [1, 1, 1, 0, 1, 0] (js 3 ((AV.ptr (Id.h 3 0) none 0) :: js 3 ((slc cLHex c) :: (.own (Id.h 8 0) none 0 a.length a.length) :: (I d) :: js 41 []))) [(Id.h 3 0, some ⟨false, true, false, 0, cBoard b⟩), (Id.h 8 0, some (rowB true false 1 cLI a))]
noncomputable def L_spec_sAt_L3 (a : List Int) (f b : Int) (c : List DUnit) (d e : Int) : Option R := lpK G T 103 Tryz.f103 [1, 1, 0, 1, 0] (js 1 ((I f) :: (I b) :: js 4 ((.own (Id.h 7 0) none 0 a.length a.length) :: js 3 ((slc cUnit c) :: (I d) :: (I e) :: js 20 [])))) [(Id.h 7 0, some (rowB true false 1 cI a))]
noncomputable def L_spec_sOf_L3 (a : List Int) (b : Int) (e : List DUnit) (c d : Int) : Option R := lpK G T 70 Tryz.f70 [1, 1, 0, 1, 0] (js 1 ((I b) :: js 3 ((.own (Id.h 5 0) none 0 a.length a.length) :: js 3 ((slc cUnit e) :: (I c) :: (I d) :: js 19 [])))) [(Id.h 5 0, some (rowB true false 1 cI a))]
noncomputable def L_spec_vCode_L4 (a : DBoard) (e f : Int) (b : List (List Int)) (c d : Int) : Option R := lpK G T 130 Tryz.f130 [1, 1, 0, 1, 0] (js 1 ((I e) :: (I f) :: (AV.ptr (Id.h 3 0) none 0) :: js 13 ((slc cLI b) :: (I c) :: (I d) :: js 10 []))) [(Id.h 3 0, some ⟨false, true, false, 0, cBoard a⟩)]
noncomputable def L_spec_vFirst_L2 (a : DBoard) (e f : Int) (b : List (List Int)) (c d : Int) : Option R := lpK G T 132 Tryz.f132 [1, 0, 1, 0] (js 1 ((I e) :: (I f) :: (AV.ptr (Id.h 3 0) none 0) :: js 8 ((slc cLI b) :: (I c) :: (I d) :: js 14 []))) [(Id.h 3 0, some ⟨false, true, false, 0, cBoard a⟩)]
noncomputable def L_laws_sameInts_L4 (c d : List Int) (a b : Int) : Option R := lpK G T 8 Tryz.f8 [1, 1, 0, 1, 0] ((slc cI c) :: (slc cI d) :: js 10 ((I a) :: (I b) :: js 12 [])) []
noncomputable def L_impl_neighboursOn_L3 (a : List Int) (b : DMap) (c d : Int) : Option R := lpK G T 34 Tryz.f34 [1, 1, 0, 1, 0] (js 1 ((I c) :: (AV.ptr (Id.h 2 0) none 0) :: js 2 ((.own (Id.h 5 0) none 0 a.length a.length) :: js 3 ((I d) :: js 14 [])))) [(Id.h 2 0, some ⟨false, true, false, 0, cMap b⟩), (Id.h 5 0, some (rowB true false 1 cI a))]
noncomputable def L_spec_yOnly_L3 (a c d : List Int) (e b : Int) : Option R := lpK G T 44 Tryz.f44 [1, 1, 0, 1, 0] (js 1 ((slc cI c) :: js 3 ((.own (Id.h 5 0) none 0 a.length a.length) :: js 2 ((slc cI d) :: (I e) :: (I b) :: js 13 [])))) [(Id.h 5 0, some (rowB true false 1 cI a))]
noncomputable def L_spec_vCount_L3 (a : DBoard) (e f g : Int) (b : List Int) (c d : Int) : Option R := lpK G T 134 Tryz.f134 [1, 1, 0, 1, 0] (js 1 ((I e) :: (I f) :: js 1 ((AV.ptr (Id.h 4 0) none 0) :: js 4 ((I g) :: js 2 ((slc cI b) :: (I c) :: (I d) :: js 12 []))))) [(Id.h 4 0, some ⟨false, true, false, 0, cBoard a⟩)]
noncomputable def L_impl_increasing_L2 (a : List Int) (b : Int) : Option R := lpK G T 76 Tryz.f76 [1, 0, 1, 0] ((slc cI a) :: js 2 ((I b) :: js 16 [])) []
noncomputable def L_spec_l1Has_L2 (a : Int) (b : List Int) (c d : Int) : Option R := lpK G T 36 Tryz.f36 [1, 0, 1, 0] (js 1 ((I a) :: js 5 ((slc cI b) :: (I c) :: (I d) :: js 7 []))) []
noncomputable def L_spec_rGood_L10 (a : DRules) (b : List DKind) (c d : Int) : Option R := lpK G T 88 Tryz.f88 [1, 1, 1, 0, 1, 0] (js 1 ((AV.ptr (Id.h 1 0) none 0) :: js 67 ((slc cKind b) :: (I c) :: (I d) :: js 65 []))) [(Id.h 1 0, some ⟨false, true, false, 0, cRules a⟩)]
noncomputable def L_spec_vCells_L8 (b : List (List Int)) (a : List Int) (c : DBoard) (d : List (List DHex)) (h : Int) (e : List DHex) (f g : Int) : Option R := lpK G T 133 Tryz.f133 [1, 1, 1, 0, 1, 0, 0, 1, 0, 0, 1, 0, 1, 0] (js 3 ((AV.ptr (Id.h 3 0) none 0) :: js 3 ((slc cLHex d) :: (.own (Id.h 8 0) none 0 b.length b.length) :: (I h) :: (.own (Id.h 10 0) none 0 a.length a.length) :: js 21 ((slc cHex e) :: (I f) :: (I g) :: js 16 [])))) [(Id.h 3 0, some ⟨false, true, false, 0, cBoard c⟩), (Id.h 8 0, some (rowB true false 1 cLI b)), (Id.h 10 0, some (rowB true false 1 cI a))]
noncomputable def L_spec_l1Put_L2 (a : List Int) (b c d : Nat) (e f : Int) : Option R := lpK G T 105 Tryz.f105 [1, 1, 0, 0] ((.own (Id.l 0) none b c d) :: (I e) :: js 3 ((I f) :: js 42 [])) [(Id.l 0, some (rowB false false 1 cI a))]
noncomputable def L_spec_fgSeen_L3 (a b : List Int) (c : DBoard) (d : DState) (e f g : Nat) (h i : Int) : Option R := lpK G T 72 Tryz.f72 [1, 1, 0, 1, 0] (js 3 ((AV.ptr (Id.h 3 0) none 0) :: (AV.ptr (Id.h 4 0) none 0) :: js 2 ((.own (Id.h 7 0) none e f g) :: js 6 ((.own (Id.h 14 0) none 0 a.length a.length) :: (I h) :: (I i) :: js 21 [])))) [(Id.h 3 0, some ⟨false, true, false, 0, cBoard c⟩), (Id.h 4 0, some ⟨false, true, false, 0, cState d⟩), (Id.h 14 0, some (rowB true false 1 cI a)), (Id.h 7 0, some (rowB true false 1 cI b))]
noncomputable def L_impl_HiddenThreat_L5 (d : List Bool) (e : DBoard) (f : DView) (i : Int) (a b c : Nat) (g h : Int) : Option R := lpK G T 13 Tryz.f13 [1, 1, 1, 0, 1, 0] (js 2 ((I i) :: (AV.ptr (Id.h 3 0) none 0) :: (AV.ptr (Id.h 4 0) none 0) :: js 3 ((.own (Id.h 8 0) none a b c) :: js 23 ((I g) :: (I h) :: js 37 [])))) [(Id.h 3 0, some ⟨false, true, false, 0, cBoard e⟩), (Id.h 4 0, some ⟨false, true, false, 0, cView f⟩), (Id.h 8 0, some (rowB true false 1 cB d))]
noncomputable def L_spec_fgSeen_L6 (b a : List Int) (c : DBoard) (d : DState) (e f g : Nat) (h i : Int) (j : List Int) (k l : Int) : Option R := lpK G T 72 Tryz.f72 [1, 1, 0, 1, 0, 0, 1, 1, 0, 0, 1, 1, 0] (js 3 ((AV.ptr (Id.h 3 0) none 0) :: (AV.ptr (Id.h 4 0) none 0) :: js 2 ((.own (Id.h 7 0) none e f g) :: js 6 ((.own (Id.h 14 0) none 0 a.length a.length) :: (I h) :: (I i) :: js 9 ((slc cI j) :: (I k) :: (I l) :: js 9 []))))) [(Id.h 3 0, some ⟨false, true, false, 0, cBoard c⟩), (Id.h 4 0, some ⟨false, true, false, 0, cState d⟩), (Id.h 7 0, some (rowB true false 1 cI b)), (Id.h 14 0, some (rowB true false 1 cI a))]
noncomputable def L_impl_HiddenThreat_L8 (d : List Bool) (e : DBoard) (f : DView) (l : Int) (a b c : Nat) (g h : Int) (i : List Int) (j k : Int) : Option R := lpK G T 13 Tryz.f13 [1, 1, 1, 0, 1, 0, 0, 1, 1, 0, 0, 1, 1, 0] (js 2 ((I l) :: (AV.ptr (Id.h 3 0) none 0) :: (AV.ptr (Id.h 4 0) none 0) :: js 3 ((.own (Id.h 8 0) none a b c) :: js 23 ((I g) :: (I h) :: js 5 ((slc cI i) :: (I j) :: (I k) :: js 29 []))))) [(Id.h 3 0, some ⟨false, true, false, 0, cBoard e⟩), (Id.h 4 0, some ⟨false, true, false, 0, cView f⟩), (Id.h 8 0, some (rowB true false 1 cB d))]
noncomputable def L_impl_HiddenThreat_L15 (d : List Bool) (e : DBoard) (a b c : Nat) (f : Int) (g : List Int) (h i : Int) : Option R := lpK G T 13 Tryz.f13 [1, 1, 1, 1, 1, 0, 1, 0] (js 3 ((AV.ptr (Id.h 3 0) none 0) :: js 4 ((.own (Id.h 8 0) none a b c) :: js 3 ((I f) :: js 40 ((slc cI g) :: (I h) :: (I i) :: js 15 []))))) [(Id.h 3 0, some ⟨false, true, false, 0, cBoard e⟩), (Id.h 8 0, some (rowB true false 1 cB d))]
noncomputable def L_spec_fgSeen_L3_1 (b a : List Int) (c : DBoard) (d : DState) (e f g : Nat) (h i : Int) : Option R := lpK G T 72 Tryz.f72 [1, 1, 0, 1, 0] (js 3 ((AV.ptr (Id.h 3 0) none 0) :: (AV.ptr (Id.h 4 0) none 0) :: js 2 ((.own (Id.h 7 0) none e f g) :: js 6 ((.own (Id.h 14 0) none 0 a.length a.length) :: (I h) :: (I i) :: js 21 [])))) [(Id.h 3 0, some ⟨false, true, false, 0, cBoard c⟩), (Id.h 4 0, some ⟨false, true, false, 0, cState d⟩), (Id.h 7 0, some (rowB true false 1 cI b)), (Id.h 14 0, some (rowB true false 1 cI a))]
noncomputable def L_spec_CountHidings_L6 (a : List Int) (e : DBoard) (h : Int) (b c d : Nat) (f g : Int) : Option R := lpK G T 11 Tryz.f11 [1, 1, 1, 1, 0, 1, 0] (js 3 ((I h) :: (AV.ptr (Id.h 4 0) none 0) :: js 5 ((.own (Id.h 10 0) none b c d) :: js 26 ((I f) :: (I g) :: js 38 [])))) [(Id.h 4 0, some ⟨false, true, false, 0, cBoard e⟩), (Id.h 10 0, some (rowB true false 1 cI a))]
noncomputable def L_spec_CountHidings_L9 (a b : List Int) (f : DBoard) (n : Int) (c d e : Nat) (j k : Int) (g h i : Nat) (l m : Int) : Option R := lpK G T 11 Tryz.f11 [1, 1, 1, 1, 0, 1, 0, 0, 1, 1, 0, 0, 1, 0, 1, 0] (js 3 ((I n) :: (AV.ptr (Id.h 4 0) none 0) :: js 6 ((.own (Id.h 11 0) none c d e) :: js 25 ((I j) :: (I k) :: js 2 ((.own (Id.h 41 0) none g h i) :: (I l) :: (I m) :: js 33 []))))) [(Id.h 4 0, some ⟨false, true, false, 0, cBoard f⟩), (Id.h 11 0, some (rowB true false 1 cI a)), (Id.h 41 0, some (rowB true false 1 cI b))]
noncomputable def L_spec_CountHidings_L12 (a b : List Int) (f : DBoard) (q : Int) (c d e : Nat) (g k l m n : Int) (h i j : Nat) (o p : Int) : Option R := lpK G T 11 Tryz.f11 [1, 1, 1, 1, 0, 1, 0, 0, 1, 1, 0, 0, 1, 0, 1, 0, 0, 1, 1, 0, 0, 1, 1, 0] (js 3 ((I q) :: (AV.ptr (Id.h 4 0) none 0) :: js 6 ((.own (Id.h 11 0) none c d e) :: (I g) :: (I k) :: (I l) :: js 22 ((I m) :: (I n) :: js 2 ((.own (Id.h 41 0) none h i j) :: (I o) :: (I p) :: js 33 []))))) [(Id.h 4 0, some ⟨false, true, false, 0, cBoard f⟩), (Id.h 11 0, some (rowB true false 1 cI a)), (Id.h 41 0, some (rowB true false 1 cI b))]
noncomputable def L_impl_IsRules_L4 (a : DRules) (b : List DTerrain) (c d : Int) : Option R := lpK G T 94 Tryz.f94 [1, 1, 0, 1, 0] (js 1 ((AV.ptr (Id.h 1 0) none 0) :: js 18 ((slc cTerrain b) :: (I c) :: (I d) :: js 64 []))) [(Id.h 1 0, some ⟨false, true, false, 0, cRules a⟩)]
noncomputable def L_spec_yGood_L4 (a : DView) (b : List DUnit) (c d : Int) : Option R := lpK G T 57 Tryz.f57 [1, 1, 0, 1, 0] (js 3 ((AV.ptr (Id.h 3 0) none 0) :: js 52 ((slc cUnit b) :: (I c) :: (I d) :: js 25 []))) [(Id.h 3 0, some ⟨false, true, false, 0, cView a⟩)]
noncomputable def L_impl_IsMap_L4 (a : DMap) (b : List Int) (c d : Int) : Option R := lpK G T 95 Tryz.f95 [1, 1, 0, 1, 0] (js 1 ((AV.ptr (Id.h 1 0) none 0) :: js 29 ((slc cI b) :: (I c) :: (I d) :: js 32 []))) [(Id.h 1 0, some ⟨false, true, false, 0, cMap a⟩)]
noncomputable def L_spec_yNew_L3 (a : List Int) (e b : List DUnit) (c d : Int) : Option R := lpK G T 45 Tryz.f45 [1, 1, 0, 1, 0] (js 1 ((slc cUnit e) :: js 3 ((.own (Id.h 5 0) none 0 a.length a.length) :: js 5 ((slc cUnit b) :: (I c) :: (I d) :: js 25 [])))) [(Id.h 5 0, some (rowB true false 1 cI a))]
noncomputable def L_spec_mEdges_L2 (a : DMap) (b c : List Int) (d e : Int) : Option R := lpK G T 112 Tryz.f112 [1, 0, 1, 0] (js 1 ((slc cI b) :: (AV.ptr (Id.h 2 0) none 0) :: js 4 ((slc cI c) :: (I d) :: (I e) :: js 26 []))) [(Id.h 2 0, some ⟨false, true, false, 0, cMap a⟩)]
noncomputable def L_spec_l1Rising_L2 (e : List Int) (a b : Int) (f : List Int) (c d : Int) : Option R := lpK G T 91 Tryz.f91 [1, 0, 1, 0] ((slc cI e) :: (I a) :: (I b) :: js 6 ((slc cI f) :: (I c) :: (I d) :: js 23 [])) []
noncomputable def L_spec_yUnits_L2 (a : DBoard) (e : List DUnit) (b : Int) (f : List DUnit) (c d : Int) : Option R := lpK G T 92 Tryz.f92 [1, 0, 1, 0] (js 1 ((slc cUnit e) :: (I b) :: (AV.ptr (Id.h 3 0) none 0) :: js 5 ((slc cUnit f) :: (I c) :: (I d) :: js 17 []))) [(Id.h 3 0, some ⟨false, true, false, 0, cBoard a⟩)]
noncomputable def L_impl_newUnits_L3 (a : List Int) (b e : List DUnit) (c d : Int) : Option R := lpK G T 43 Tryz.f43 [1, 1, 0, 1, 0] (js 1 ((slc cUnit b) :: js 3 ((.own (Id.h 5 0) none 0 a.length a.length) :: js 3 ((slc cUnit e) :: (I c) :: (I d) :: js 14 [])))) [(Id.h 5 0, some (rowB true false 1 cI a))]
noncomputable def L_spec_l1All_L2 (a b : Int) (e : List Int) (c d : Int) : Option R := lpK G T 90 Tryz.f90 [1, 0, 1, 0] (js 1 ((I a) :: (I b) :: js 6 ((slc cI e) :: (I c) :: (I d) :: js 9 []))) []
noncomputable def L_sc_rules_L5 (a : List DTerrain) (p : List DKind) (b : List ByteArray) (q : Dl1Cur) (f g h i j : Int) (c d e : Nat) (k l m n o r : Int) : Option R := lpK G T 100 Tryz.f100 [1, 1, 1, 1, 0, 1, 0] ((AV.ptr (Id.l 0) none 0) :: js 1 ((AV.ptr (Id.h 2 0) none 0) :: js 1 ((AV.ptr (Id.h 4 0) none 0) :: (.own (Id.h 5 0) none 0 b.length b.length) :: (I r) :: js 108 []))) [(Id.l 0, bl (cl1Cur q)), (Id.h 2 0, some ⟨false, true, false, 0, [.emp, .emp, (I f), (I g), (I h), (I i), (I j)]⟩), (Id.h 4 0, some ⟨false, true, false, 0, [(.own (Id.h 4 1) none 0 a.length a.length), (.own (Id.h 4 2) none c d e), (I k), (I l), (I m), (I n), (I o)]⟩), (Id.h 4 1, some (rowB true true 5 cTerrainN a)), (Id.h 4 2, some (rowB true false 6 cKind p)), (Id.h 5 0, some (rowB true false 1 cS b))]
noncomputable def L_impl_IsRules_L10 (a : DRules) (b : List DKind) (c d : Int) : Option R := lpK G T 94 Tryz.f94 [1, 1, 1, 0, 1, 0] (js 1 ((AV.ptr (Id.h 1 0) none 0) :: js 42 ((slc cKind b) :: (I c) :: (I d) :: js 40 []))) [(Id.h 1 0, some ⟨false, true, false, 0, cRules a⟩)]
noncomputable def L_impl_IsMap_L10 (a : List (List Int)) (b : DMap) (c d : Int) : Option R := lpK G T 95 Tryz.f95 [1, 1, 1, 0, 1, 0] (js 1 ((AV.ptr (Id.h 1 0) none 0) :: js 43 ((.own (Id.h 45 0) none 0 a.length a.length) :: (I c) :: (I d) :: js 18 []))) [(Id.h 1 0, some ⟨false, true, false, 0, cMap b⟩), (Id.h 45 0, some (rowB true false 1 cLI a))]
noncomputable def L_spec_yNew_L7 (a : List Int) (b : DUnit) (j : List DUnit) (k : Int) (c : Bool) (d : List DUnit) (e f : Int) (g : List DUnit) (h i : Int) : Option R := lpK G T 45 Tryz.f45 [1, 1, 0, 1, 0, 0, 1, 1, 0, 0, 1, 1, 0, 1, 0] (js 1 ((slc cUnit j) :: js 3 ((.own (Id.h 5 0) none 0 a.length a.length) :: (I k) :: (AV.ptr (Id.h 7 0) none 0) :: (B c) :: js 2 ((slc cUnit d) :: (I e) :: (I f) :: js 4 ((slc cUnit g) :: (I h) :: (I i) :: js 18 []))))) [(Id.h 5 0, some (rowB true false 1 cI a)), (Id.h 7 0, some ⟨false, true, false, 0, cUnit b⟩)]
noncomputable def L_hT_impl_mayHide_1_L3 (a : List Int) (c : DView) (d : DBoard) (b e f : Int) : Option R := lpK G T 46 Tryz.f46 [1, 1, 0, 1, 0] (js 1 ((.clo 52 [(AV.ptr (Id.l 0) none 0), (AV.ptr (Id.l 1) none 0), (AV.ptr (Id.l 2) none 0)]) :: js 3 ((.own (Id.h 5 0) none 0 a.length a.length) :: js 5 ((I e) :: (I f) :: js 11 [])))) [(Id.l 0, bl (cView c)), (Id.l 1, bl (cBoard d)), (Id.l 2, some ⟨false, false, false, 0, [(I b)]⟩), (Id.h 5 0, some (rowB true false 1 cI a))]
noncomputable def L_slices_IndexFunc_Kind_of_impl_kindIndex_1_L2 (a : ByteArray) (b : List DKind) (c d : Int) : Option R := lpK G T 124 Tryz.f124 [1, 0, 1, 0] ((slc cKind b) :: (.clo 125 [(AV.ptr (Id.l 0) none 0)]) :: js 5 ((I c) :: (I d) :: js 10 [])) [(Id.l 0, some ⟨false, false, false, 0, [(S a)]⟩)]
noncomputable def L_sc_rules_L10 (a : List DTerrain) (u : List DKind) (b : List ByteArray) (c : List Int) (v : Dl1Cur) (g h i j k : Int) (d e f : Nat) (l m n o p : Int) (q : ByteArray) (r s : Int) (t : Bool) (y w x : Int) : Option R := lpK G T 100 Tryz.f100 [1, 1, 1, 1, 0, 1, 0, 0, 1, 0, 0, 1, 1, 0, 1, 0] ((AV.ptr (Id.l 0) none 0) :: js 1 ((AV.ptr (Id.h 2 0) none 0) :: js 1 ((AV.ptr (Id.h 4 0) none 0) :: (.own (Id.h 5 0) none 0 b.length b.length) :: (I y) :: (AV.ptr (Id.h 7 0) none 0) :: js 86 ((I w) :: (I x) :: js 19 [])))) [(Id.l 0, bl (cl1Cur v)), (Id.h 2 0, some ⟨false, true, false, 0, [.emp, .emp, (I g), (I h), (I i), (I j), (I k)]⟩), (Id.h 4 0, some ⟨false, true, false, 0, [(.own (Id.h 4 1) none 0 a.length a.length), (.own (Id.h 4 2) none d e f), (I l), (I m), (I n), (I o), (I p)]⟩), (Id.h 4 1, some (rowB true true 5 cTerrainN a)), (Id.h 4 2, some (rowB true false 6 cKind u)), (Id.h 5 0, some (rowB true false 1 cS b)), (Id.h 7 0, some ⟨false, true, false, 0, [(S q), (.own (Id.h 7 1) none 0 c.length c.length), (I r), (I s), (B t)]⟩), (Id.h 7 1, some (rowB true false 1 cI c))]
noncomputable def L_impl_IsMap_L15 (a : List (List Int)) (b : DMap) (c d : Int) (e : List Int) (f g : Int) : Option R := lpK G T 95 Tryz.f95 [1, 1, 1, 0, 1, 0, 0, 1, 1, 0, 0, 1, 1, 1, 0] (js 1 ((AV.ptr (Id.h 1 0) none 0) :: js 43 ((.own (Id.h 45 0) none 0 a.length a.length) :: (I c) :: (I d) :: js 6 ((slc cI e) :: (I f) :: (I g) :: js 9 [])))) [(Id.h 1 0, some ⟨false, true, false, 0, cMap b⟩), (Id.h 45 0, some (rowB true false 1 cLI a))]
noncomputable def L_slices_Index_Unit_L2 (a : DUnit) (b : List DUnit) (c d : Int) : Option R := lpK G T 107 Tryz.f107 [1, 0, 1, 0] ((slc cUnit b) :: js 2 ((AV.ptr (Id.h 3 0) none 0) :: js 3 ((I c) :: (I d) :: js 10 []))) [(Id.h 3 0, some ⟨false, true, false, 0, cUnit a⟩)]
noncomputable def L_slices_IndexFunc_Unit_of_impl_mayHide_1_1_L2 (a : Int) (b : List DUnit) (c d : Int) : Option R := lpK G T 86 Tryz.f86 [1, 0, 1, 0] ((slc cUnit b) :: (.clo 54 [(AV.ptr (Id.l 0) none 0)]) :: js 5 ((I c) :: (I d) :: js 10 [])) [(Id.l 0, some ⟨false, false, false, 0, [(I a)]⟩)]
noncomputable def L_slices_Index_int_L2 (a : List Int) (b c d : Int) : Option R := lpK G T 83 Tryz.f83 [1, 0, 1, 0] ((slc cI a) :: (I b) :: js 5 ((I c) :: (I d) :: js 10 [])) []
noncomputable def L_impl_goodView_L6 (a : DBoard) (b : DView) (c : List DUnit) (d e : Int) : Option R := lpK G T 41 Tryz.f41 [1, 1, 1, 0, 1, 0] (js 2 ((AV.ptr (Id.h 2 0) none 0) :: (AV.ptr (Id.h 3 0) none 0) :: js 47 ((slc cUnit c) :: (I d) :: (I e) :: js 45 []))) [(Id.h 2 0, some ⟨false, true, false, 0, cBoard a⟩), (Id.h 3 0, some ⟨false, true, false, 0, cView b⟩)]
noncomputable def L_spec_hLine_L6 (a : List (List DHex)) (b c : DHex) (d e : Int) : Option R := lpK G T 136 Tryz.f136 [1, 1, 1, 1, 0, 1, 0] (js 2 ((AV.ptr (Id.h 2 0) none 0) :: (AV.ptr (Id.h 3 0) none 0) :: js 1 ((I d) :: (.own (Id.h 6 0) none 0 a.length a.length) :: (I e) :: js 22 []))) [(Id.h 2 0, some ⟨false, true, false, 0, cHex b⟩), (Id.h 3 0, some ⟨false, true, false, 0, cHex c⟩), (Id.h 6 0, some (rowB true false 1 cLHex a))]
noncomputable def L_spec_vSeen_L3 (a : List Int) (b : DBoard) (g c : Int) (d : List Int) (e f : Int) : Option R := lpK G T 128 Tryz.f128 [1, 1, 0, 1, 0] (js 1 ((I g) :: js 1 ((I c) :: (AV.ptr (Id.h 4 0) none 0) :: js 4 ((.own (Id.h 9 0) none 0 a.length a.length) :: js 6 ((slc cI d) :: (I e) :: (I f) :: js 15 []))))) [(Id.h 4 0, some ⟨false, true, false, 0, cBoard b⟩), (Id.h 9 0, some (rowB true false 1 cI a))]
noncomputable def L_spec_yUnseen_L3 (a : List Int) (b : DBoard) (c : DView) (d : Int) : Option R := lpK G T 49 Tryz.f49 [1, 1, 0, 1, 0] (js 2 ((AV.ptr (Id.h 2 0) none 0) :: (AV.ptr (Id.h 3 0) none 0) :: js 1 ((.own (Id.h 5 0) none 0 a.length a.length) :: (I d) :: js 17 []))) [(Id.h 2 0, some ⟨false, true, false, 0, cBoard b⟩), (Id.h 3 0, some ⟨false, true, false, 0, cView c⟩), (Id.h 5 0, some (rowB true false 1 cI a))]
noncomputable def L_spec_rName_L2 (a : ByteArray) (b : Int) : Option R := lpK G T 109 Tryz.f109 [1, 0, 1, 0] ((S a) :: js 2 ((I b) :: js 19 [])) []
noncomputable def L_impl_without_L3 (a b e : List Int) (c d : Int) : Option R := lpK G T 42 Tryz.f42 [1, 1, 0, 1, 0] (js 1 ((slc cI b) :: js 3 ((.own (Id.h 5 0) none 0 a.length a.length) :: js 3 ((slc cI e) :: (I c) :: (I d) :: js 13 [])))) [(Id.h 5 0, some (rowB true false 1 cI a))]
noncomputable def L_spec_rKind_L2 (a : ByteArray) (b : List DKind) (c d : Int) : Option R := lpK G T 111 Tryz.f111 [1, 0, 1, 0] (js 1 ((S a) :: js 5 ((slc cKind b) :: (I c) :: (I d) :: js 10 []))) []
noncomputable def L_impl_goodView_L12 (a : DBoard) (b : DView) (c : List DUnit) (d e : Int) : Option R := lpK G T 41 Tryz.f41 [1, 1, 1, 1, 0, 1, 0] (js 2 ((AV.ptr (Id.h 2 0) none 0) :: (AV.ptr (Id.h 3 0) none 0) :: js 66 ((slc cUnit c) :: (I d) :: (I e) :: js 26 []))) [(Id.h 2 0, some ⟨false, true, false, 0, cBoard a⟩), (Id.h 3 0, some ⟨false, true, false, 0, cView b⟩)]
noncomputable def L_sc_close_L6 (a : List Int) (y : List DUnit) (z : Dl1Cur) (e f g h i j k l m : Int) (n : List DTerrain) (o : List DKind) (p q r s t u v w x : Int) (b c d : Nat) (k6 : Int) : Option R := lpK G T 37 Tryz.f37 [1, 1, 1, 1, 0, 1, 0] ((AV.ptr (Id.l 0) none 0) :: js 1 ((AV.ptr (Id.h 2 0) none 0) :: (AV.ptr (Id.h 3 0) none 0) :: (AV.ptr (Id.h 4 0) none 0) :: (AV.ptr (Id.h 5 0) none 0) :: (I k6) :: js 57 [])) [(Id.l 0, bl (cl1Cur z)), (Id.h 2 0, some ⟨false, true, false, 0, [.emp, .emp, (I e), (I f), (I g), (I h), (I i), (I j), (I k), .emp, .emp, .emp]⟩), (Id.h 3 0, some ⟨false, true, false, 0, [(I l), (I m), .emp]⟩), (Id.h 4 0, some ⟨false, true, false, 0, [(slc cTerrain n), (slc cKind o), (I p), (I q), (I r), (I s), (I t), (I u), (I v), (.own (Id.h 4 1) none 0 a.length a.length), .emp, .emp]⟩), (Id.h 4 1, some (rowB true false 1 cI a)), (Id.h 5 0, some ⟨false, true, false, 0, [(I w), (I x), (.own (Id.h 5 1) none b c d)]⟩), (Id.h 5 1, some (rowB true false 4 cUnit y))]
noncomputable def L_sc_close_L6_1 (o : List DUnit) (q : Dl1Cur) (d e f g h i j k l : Int) (p : DBoard) (m n : Int) (a b c : Nat) (r : Int) : Option R := lpK G T 37 Tryz.f37 [1, 1, 1, 1, 0, 1, 0] ((AV.ptr (Id.l 0) none 0) :: js 1 ((AV.ptr (Id.h 2 0) none 0) :: (AV.ptr (Id.h 3 0) none 0) :: (AV.ptr (Id.h 4 0) none 0) :: (AV.ptr (Id.h 5 0) none 0) :: (I r) :: js 57 [])) [(Id.l 0, bl (cl1Cur q)), (Id.h 2 0, some ⟨false, true, false, 0, [.emp, .emp, (I d), (I e), (I f), (I g), (I h), (I i), (I j), .emp, .emp, .emp]⟩), (Id.h 3 0, some ⟨false, true, false, 0, [(I k), (I l), .emp]⟩), (Id.h 4 0, some ⟨false, true, false, 0, cBoard p⟩), (Id.h 5 0, some ⟨false, true, false, 0, [(I m), (I n), (.own (Id.h 5 1) none a b c)]⟩), (Id.h 5 1, some (rowB true false 4 cUnit o))]
noncomputable def L_sc_moved_L2 (f : Dl1Cur) (c : DBoard) (d : DState) (a b e g : Int) : Option R := lpK G T 38 Tryz.f38 [1, 0, 1, 0] ((AV.ptr (Id.l 0) none 0) :: js 2 ((I e) :: js 1 ((AV.ptr (Id.h 5 0) none 0) :: (AV.ptr (Id.h 6 0) none 0) :: js 1 ((AV.ptr (Id.h 8 0) none 0) :: (I g) :: js 38 [])))) [(Id.l 0, bl (cl1Cur f)), (Id.h 5 0, some ⟨false, true, false, 0, cBoard c⟩), (Id.h 6 0, some ⟨false, true, false, 0, cState d⟩), (Id.h 8 0, some ⟨false, true, false, 0, [(I a), (I b), .emp]⟩)]
noncomputable def L_sc_edges_L3 (a : List Int) (c : Dl1Cur) (b : DMap) (d e f : Nat) (g : Int) : Option R := lpK G T 118 Tryz.f118 [1, 1, 0, 1, 0] ((AV.ptr (Id.l 0) none 0) :: js 2 ((AV.ptr (Id.h 3 0) none 0) :: js 1 ((.own (Id.h 5 0) none d e f) :: (I g) :: js 26 []))) [(Id.l 0, bl (cl1Cur c)), (Id.h 3 0, some ⟨false, true, false, 0, cMap b⟩), (Id.h 5 0, some (rowB true false 1 cI a))]
noncomputable def L_slices_IndexFunc_Terrain_of_impl_terrainIndex_1_L2 (a : ByteArray) (b : List DTerrain) (c d : Int) : Option R := lpK G T 122 Tryz.f122 [1, 0, 1, 0] ((slc cTerrain b) :: (.clo 123 [(AV.ptr (Id.l 0) none 0)]) :: js 5 ((I c) :: (I d) :: js 10 [])) [(Id.l 0, some ⟨false, false, false, 0, [(S a)]⟩)]
noncomputable def L_xf_impl_goodView_1_L2 (a : DBoard) (b : List Int) (c d : Int) : Option R := lpK G T 106 Tryz.f106 [1, 0, 1, 0] ((slc cI b) :: (.clo 78 [(AV.ptr (Id.l 0) none 0)]) :: js 5 ((I c) :: (I d) :: js 10 [])) [(Id.l 0, bl (cBoard a))]
noncomputable def L_sc_moved_L2_1 (h : List DUnit) (k : Dl1Cur) (i : DBoard) (d e : Int) (a b c : Nat) (f g j l : Int) : Option R := lpK G T 38 Tryz.f38 [1, 0, 1, 0] ((AV.ptr (Id.l 0) none 0) :: js 2 ((I j) :: js 1 ((AV.ptr (Id.h 5 0) none 0) :: (AV.ptr (Id.h 6 0) none 0) :: js 1 ((AV.ptr (Id.h 8 0) none 0) :: (I l) :: js 38 [])))) [(Id.l 0, bl (cl1Cur k)), (Id.h 5 0, some ⟨false, true, false, 0, cBoard i⟩), (Id.h 6 0, some ⟨false, true, false, 0, [(I d), (I e), (.own (Id.h 6 1) none a b c)]⟩), (Id.h 6 1, some (rowB true false 4 cUnit h)), (Id.h 8 0, some ⟨false, true, false, 0, [(I f), (I g), .emp]⟩)]
noncomputable def L_xf_impl_IsBoard_1_L2 (a : DBoard) (b : List Int) (c d : Int) : Option R := lpK G T 106 Tryz.f106 [1, 0, 1, 0] ((slc cI b) :: (.clo 96 [(AV.ptr (Id.l 0) none 0)]) :: js 5 ((I c) :: (I d) :: js 10 [])) [(Id.l 0, bl (cBoard a))]
noncomputable def L_slices_IsSortedFunc_Unit_of_impl_compareUnits_L2 (a : List DUnit) (b : Int) : Option R := lpK G T 80 Tryz.f80 [1, 0, 1, 0] ((slc cUnit a) :: (.clo 81 []) :: js 3 ((I b) :: js 19 [])) []
noncomputable def L_spec_fgView_L3 (a : List Int) (b l : List DUnit) (f g h i j k : Int) (c d e : Nat) (m : Int) (n : List DUnit) (o p : Int) : Option R := lpK G T 39 Tryz.f39 [1, 1, 0, 1, 0] (js 2 ((I m) :: js 3 ((AV.ptr (Id.h 6 0) none 0) :: (AV.ptr (Id.h 7 0) none 0) :: js 15 ((slc cUnit n) :: (I o) :: (I p) :: js 74 [])))) [(Id.h 6 0, some ⟨false, true, false, 0, [(I f), (I g), (I h), .emp, .emp, .emp]⟩), (Id.h 7 0, some ⟨false, true, false, 0, [(I i), (I j), (I k), (.own (Id.h 7 1) none 0 a.length a.length), (.own (Id.h 7 2) none 0 b.length b.length), (.own (Id.h 7 3) none c d e)]⟩), (Id.h 7 1, some (rowB true false 1 cI a)), (Id.h 7 2, some (rowB true false 4 cUnit b)), (Id.h 7 3, some (rowB true false 4 cUnit l))]
noncomputable def L_spec_fgView_L10 (a : List Int) (b l : List DUnit) (f g h i j k : Int) (c d e : Nat) (m n : Int) (o : List DUnit) (p q : Int) : Option R := lpK G T 39 Tryz.f39 [1, 1, 0, 1, 0, 0, 1, 1, 0, 0, 1, 1, 1, 1, 0, 1, 1, 0] (js 2 ((I m) :: js 3 ((AV.ptr (Id.h 6 0) none 0) :: (AV.ptr (Id.h 7 0) none 0) :: js 2 ((I n) :: js 12 ((slc cUnit o) :: (I p) :: (I q) :: js 74 []))))) [(Id.h 6 0, some ⟨false, true, false, 0, [(I f), (I g), (I h), .emp, .emp, .emp]⟩), (Id.h 7 0, some ⟨false, true, false, 0, [(I i), (I j), (I k), (.own (Id.h 7 1) none 0 a.length a.length), (.own (Id.h 7 2) none 0 b.length b.length), (.own (Id.h 7 3) none c d e)]⟩), (Id.h 7 1, some (rowB true false 1 cI a)), (Id.h 7 2, some (rowB true false 4 cUnit b)), (Id.h 7 3, some (rowB true false 4 cUnit l))]
noncomputable def L_impl_CountHidings_L6 (a : List Int) (e : DBoard) (h : Int) (b c d : Nat) (f g : Int) : Option R := lpK G T 9 Tryz.f9 [1, 1, 1, 1, 0, 1, 0] (js 3 ((I h) :: (AV.ptr (Id.h 4 0) none 0) :: js 5 ((.own (Id.h 10 0) none b c d) :: js 23 ((I f) :: (I g) :: js 41 [])))) [(Id.h 4 0, some ⟨false, true, false, 0, cBoard e⟩), (Id.h 10 0, some (rowB true false 1 cI a))]
noncomputable def L_impl_CountHidings_L9 (a b : List Int) (f : DBoard) (n : Int) (c d e : Nat) (j k : Int) (g h i : Nat) (l m : Int) : Option R := lpK G T 9 Tryz.f9 [1, 1, 1, 1, 0, 1, 0, 0, 1, 1, 0, 0, 1, 0, 1, 0] (js 3 ((I n) :: (AV.ptr (Id.h 4 0) none 0) :: js 6 ((.own (Id.h 11 0) none c d e) :: js 22 ((I j) :: (I k) :: js 4 ((.own (Id.h 40 0) none g h i) :: (I l) :: (I m) :: js 34 []))))) [(Id.h 4 0, some ⟨false, true, false, 0, cBoard f⟩), (Id.h 11 0, some (rowB true false 1 cI a)), (Id.h 40 0, some (rowB true false 1 cI b))]
noncomputable def L_impl_CountHidings_L12 (b c : List Int) (g : DBoard) (q : Int) (d e f : Nat) (a h i m n : Int) (j k l : Nat) (o p : Int) : Option R := lpK G T 9 Tryz.f9 [1, 1, 1, 1, 0, 1, 0, 0, 1, 1, 0, 0, 1, 0, 1, 0, 0, 1, 1, 0, 0, 1, 1, 0] (js 3 ((I q) :: (AV.ptr (Id.h 4 0) none 0) :: js 6 ((.own (Id.h 11 0) none d e f) :: (I a) :: (I h) :: (I i) :: js 19 ((I m) :: (I n) :: js 4 ((.own (Id.h 40 0) none j k l) :: (I o) :: (I p) :: js 34 []))))) [(Id.h 4 0, some ⟨false, true, false, 0, cBoard g⟩), (Id.h 11 0, some (rowB true false 1 cI b)), (Id.h 40 0, some (rowB true false 1 cI c))]
noncomputable def L_hT_impl_UnseenHexes_1_L3 (a : List Int) (b : DView) (c d : Int) : Option R := lpK G T 46 Tryz.f46 [1, 1, 0, 1, 0] (js 1 ((.clo 47 [(AV.ptr (Id.l 0) none 0)]) :: js 3 ((.own (Id.h 5 0) none 0 a.length a.length) :: js 5 ((I c) :: (I d) :: js 11 [])))) [(Id.l 0, bl (cView b)), (Id.h 5 0, some (rowB true false 1 cI a))]
noncomputable def A_laws_FnHidden (a b : KSl) : Option R := call G 3 [(Kn a), (Kn b)] []
noncomputable def A_spec_sGood (a : DBoard) (b : DState) : Option R := call G 69 [(.agg (cBoard a)), (.agg (cState b))] []
def en_spec_sGood : Bool → R := fun (a : Bool) => (B a, [])
theorem inj_spec_sGood : Inj en_spec_sGood := fun a b h => by
 simpa [en_spec_sGood, Prod.ext_iff, and_assoc] using h
noncomputable def A_sc_state (a : Dl1Cur) (b : DBoard) : Option R := call G 68 [(AV.ptr (Id.l 0) none 0), (.agg (cBoard b))] [(Id.l 0, bl (cl1Cur a))]
noncomputable def A_spec_HiddenThreat (a : DBoard) (b : DView) (c : Int) : Option R := call G 14 [(.agg (cBoard a)), (.agg (cView b)), (I c)] []
def en_spec_HiddenThreat : Int × Bool → R := fun (a : Int × Bool) => (AV.tup [I a.fst, B a.snd], [])
theorem inj_spec_HiddenThreat : Inj en_spec_HiddenThreat := fun a b h => by
 first | (simpa [en_spec_HiddenThreat, Prod.ext_iff, and_assoc] using h) | (obtain ⟨_, _⟩ := a; obtain ⟨_, _⟩ := b; simp [en_spec_HiddenThreat] at h ⊢; simp_all; done) | (obtain ⟨_, _⟩ := a; obtain ⟨_, _⟩ := b; simp [en_spec_HiddenThreat] at h; obtain ⟨h1, h2⟩ := h; have h3 := List.append_inj h2.2.2 h1.2.1.1; simp_all) | (obtain ⟨_, _⟩ := a; obtain ⟨_, _⟩ := b; simp [en_spec_HiddenThreat] at h; obtain ⟨h1, h2⟩ := h; have h3 := List.append_inj h2.2 h1.1; simp_all)
noncomputable def A_spec_NewsOf (a : DBoard) (b c : DView) : Option R := call G 17 [(.agg (cBoard a)), (.agg (cView b)), (.agg (cView c))] []
def en_spec_NewsOf : List Int × List Int × List Int × List Int × Bool → R := fun (a : List Int × List Int × List Int × List Int × Bool) => (AV.tup [slc cI a.fst, slc cI a.snd.fst, slc cI a.snd.snd.fst, slc cI a.snd.snd.snd.fst, B a.snd.snd.snd.snd], [])
theorem inj_spec_NewsOf : Inj en_spec_NewsOf := fun a b h => by
 first | (simpa [en_spec_NewsOf, Prod.ext_iff, and_assoc] using h) | (obtain ⟨_, ⟨_, ⟨_, ⟨_, _⟩⟩⟩⟩ := a; obtain ⟨_, ⟨_, ⟨_, ⟨_, _⟩⟩⟩⟩ := b; simp [en_spec_NewsOf] at h ⊢; simp_all; done) | (obtain ⟨_, ⟨_, ⟨_, ⟨_, _⟩⟩⟩⟩ := a; obtain ⟨_, ⟨_, ⟨_, ⟨_, _⟩⟩⟩⟩ := b; simp [en_spec_NewsOf] at h; obtain ⟨h1, h2⟩ := h; have h3 := List.append_inj h2.2.2 h1.2.1.1; simp_all) | (obtain ⟨_, ⟨_, ⟨_, ⟨_, _⟩⟩⟩⟩ := a; obtain ⟨_, ⟨_, ⟨_, ⟨_, _⟩⟩⟩⟩ := b; simp [en_spec_NewsOf] at h; obtain ⟨h1, h2⟩ := h; have h3 := List.append_inj h2.2 h1.1; simp_all)
noncomputable def A_spec_yHide (b : DBoard) (c : DView) (a : Int) : Option R := call G 26 [(.agg (cBoard b)), (.agg (cView c)), (I a)] []
def en_spec_yHide : List Int → R := fun (a : List Int) => (slc cI a, [])
theorem inj_spec_yHide : Inj en_spec_yHide := fun a b h => by
 first | (simpa [en_spec_yHide, Prod.ext_iff, and_assoc] using h) | (obtain _ := a; obtain _ := b; simp [en_spec_yHide] at h ⊢; simp_all; done) | (obtain _ := a; obtain _ := b; simp [en_spec_yHide] at h; obtain ⟨h1, h2⟩ := h; have h3 := List.append_inj h2.2.2 h1.2.1.1; simp_all) | (obtain _ := a; obtain _ := b; simp [en_spec_yHide] at h; obtain ⟨h1, h2⟩ := h; have h3 := List.append_inj h2.2 h1.1; simp_all)
noncomputable def A_sc_mapOf (b : Dl1Cur) (a : Int) : Option R := call G 101 [(AV.ptr (Id.l 0) none 0), (I a)] [(Id.l 0, bl (cl1Cur b))]
noncomputable def A_spec_mGood (a : DMap) : Option R := call G 89 [(.agg (cMap a))] []
def en_spec_mGood : Bool → R := fun (a : Bool) => (B a, [])
theorem inj_spec_mGood : Inj en_spec_mGood := fun a b h => by
 simpa [en_spec_mGood, Prod.ext_iff, and_assoc] using h
noncomputable def A_spec_DrawCountHidings (a : KSl) : Option R := call G 10 [(Kn a)] []
def en_spec_DrawCountHidings : DBoard × DView × Int × Int → R := fun (a : DBoard × DView × Int × Int) => (AV.tup [AV.agg (cBoard a.fst), AV.agg (cView a.snd.fst), I a.snd.snd.fst, I a.snd.snd.snd], [])
theorem inj_spec_DrawCountHidings : Inj en_spec_DrawCountHidings := fun a b h => by
 first | (simpa [en_spec_DrawCountHidings, Prod.ext_iff, and_assoc] using h) | (obtain ⟨⟨⟨_, _, _, _, _, _, _⟩, ⟨_, _, _, _, _⟩⟩, ⟨⟨_, _, _, _, _, _⟩, ⟨_, _⟩⟩⟩ := a; obtain ⟨⟨⟨_, _, _, _, _, _, _⟩, ⟨_, _, _, _, _⟩⟩, ⟨⟨_, _, _, _, _, _⟩, ⟨_, _⟩⟩⟩ := b; simp [en_spec_DrawCountHidings] at h ⊢; simp_all; done) | (obtain ⟨⟨⟨_, _, _, _, _, _, _⟩, ⟨_, _, _, _, _⟩⟩, ⟨⟨_, _, _, _, _, _⟩, ⟨_, _⟩⟩⟩ := a; obtain ⟨⟨⟨_, _, _, _, _, _, _⟩, ⟨_, _, _, _, _⟩⟩, ⟨⟨_, _, _, _, _, _⟩, ⟨_, _⟩⟩⟩ := b; simp [en_spec_DrawCountHidings] at h; obtain ⟨h1, h2⟩ := h; have h3 := List.append_inj h2.2.2 h1.2.1.1; simp_all) | (obtain ⟨⟨⟨_, _, _, _, _, _, _⟩, ⟨_, _, _, _, _⟩⟩, ⟨⟨_, _, _, _, _, _⟩, ⟨_, _⟩⟩⟩ := a; obtain ⟨⟨⟨_, _, _, _, _, _, _⟩, ⟨_, _, _, _, _⟩⟩, ⟨⟨_, _, _, _, _, _⟩, ⟨_, _⟩⟩⟩ := b; simp [en_spec_DrawCountHidings] at h; obtain ⟨h1, h2⟩ := h; have h3 := List.append_inj h2.2 h1.1; simp_all)
noncomputable def A_impl_goodTerrain (b : DTerrain) (a : Int) : Option R := call G 113 [(.agg (cTerrain b)), (I a)] []
def en_impl_goodTerrain : Bool → R := fun (a : Bool) => (B a, [])
theorem inj_impl_goodTerrain : Inj en_impl_goodTerrain := fun a b h => by
 simpa [en_impl_goodTerrain, Prod.ext_iff, and_assoc] using h
noncomputable def A_spec_mIndex (a : DMap) (b : DHex) : Option R := call G 64 [(.agg (cMap a)), (.agg (cHex b))] []
def en_spec_mIndex : Int → R := fun (a : Int) => (I a, [])
theorem inj_spec_mIndex : Inj en_spec_mIndex := fun a b h => by
 simpa [en_spec_mIndex, Prod.ext_iff, and_assoc] using h
noncomputable def A_spec_mNear (b : DMap) (c a : Int) : Option R := call G 129 [(.agg (cMap b)), (I c), (I a)] []
def en_spec_mNear : List Int → R := fun (a : List Int) => (slc cI a, [])
theorem inj_spec_mNear : Inj en_spec_mNear := fun a b h => by
 first | (simpa [en_spec_mNear, Prod.ext_iff, and_assoc] using h) | (obtain _ := a; obtain _ := b; simp [en_spec_mNear] at h ⊢; simp_all; done) | (obtain _ := a; obtain _ := b; simp [en_spec_mNear] at h; obtain ⟨h1, h2⟩ := h; have h3 := List.append_inj h2.2.2 h1.2.1.1; simp_all) | (obtain _ := a; obtain _ := b; simp [en_spec_mNear] at h; obtain ⟨h1, h2⟩ := h; have h3 := List.append_inj h2.2 h1.1; simp_all)
noncomputable def A_impl_indexOf (a : DMap) (b : DHex) : Option R := call G 97 [(.agg (cMap a)), (.agg (cHex b))] []
def en_impl_indexOf : Int → R := fun (a : Int) => (I a, [])
theorem inj_impl_indexOf : Inj en_impl_indexOf := fun a b h => by
 simpa [en_impl_indexOf, Prod.ext_iff, and_assoc] using h
noncomputable def A_impl_isName (a : ByteArray) : Option R := call G 120 [(S a)] []
def en_impl_isName : Bool → R := fun (a : Bool) => (B a, [])
theorem inj_impl_isName : Inj en_impl_isName := fun a b h => by
 simpa [en_impl_isName, Prod.ext_iff, and_assoc] using h
noncomputable def A_spec_DrawMayHide (a : KSl) : Option R := call G 5 [(Kn a)] []
def en_spec_DrawMayHide : DBoard × DView × Int → R := fun (a : DBoard × DView × Int) => (AV.tup [AV.agg (cBoard a.fst), AV.agg (cView a.snd.fst), I a.snd.snd], [])
theorem inj_spec_DrawMayHide : Inj en_spec_DrawMayHide := fun a b h => by
 first | (simpa [en_spec_DrawMayHide, Prod.ext_iff, and_assoc] using h) | (obtain ⟨⟨⟨_, _, _, _, _, _, _⟩, ⟨_, _, _, _, _⟩⟩, ⟨⟨_, _, _, _, _, _⟩, _⟩⟩ := a; obtain ⟨⟨⟨_, _, _, _, _, _, _⟩, ⟨_, _, _, _, _⟩⟩, ⟨⟨_, _, _, _, _, _⟩, _⟩⟩ := b; simp [en_spec_DrawMayHide] at h ⊢; simp_all; done) | (obtain ⟨⟨⟨_, _, _, _, _, _, _⟩, ⟨_, _, _, _, _⟩⟩, ⟨⟨_, _, _, _, _, _⟩, _⟩⟩ := a; obtain ⟨⟨⟨_, _, _, _, _, _, _⟩, ⟨_, _, _, _, _⟩⟩, ⟨⟨_, _, _, _, _, _⟩, _⟩⟩ := b; simp [en_spec_DrawMayHide] at h; obtain ⟨h1, h2⟩ := h; have h3 := List.append_inj h2.2.2 h1.2.1.1; simp_all) | (obtain ⟨⟨⟨_, _, _, _, _, _, _⟩, ⟨_, _, _, _, _⟩⟩, ⟨⟨_, _, _, _, _, _⟩, _⟩⟩ := a; obtain ⟨⟨⟨_, _, _, _, _, _, _⟩, ⟨_, _, _, _, _⟩⟩, ⟨⟨_, _, _, _, _, _⟩, _⟩⟩ := b; simp [en_spec_DrawMayHide] at h; obtain ⟨h1, h2⟩ := h; have h3 := List.append_inj h2.2 h1.1; simp_all)
noncomputable def A_spec_MayHide (b : DBoard) (c : DView) (a : Int) : Option R := call G 7 [(.agg (cBoard b)), (.agg (cView c)), (I a)] []
def en_spec_MayHide : List Int × Bool → R := fun (a : List Int × Bool) => (AV.tup [slc cI a.fst, B a.snd], [])
theorem inj_spec_MayHide : Inj en_spec_MayHide := fun a b h => by
 first | (simpa [en_spec_MayHide, Prod.ext_iff, and_assoc] using h) | (obtain ⟨_, _⟩ := a; obtain ⟨_, _⟩ := b; simp [en_spec_MayHide] at h ⊢; simp_all; done) | (obtain ⟨_, _⟩ := a; obtain ⟨_, _⟩ := b; simp [en_spec_MayHide] at h; obtain ⟨h1, h2⟩ := h; have h3 := List.append_inj h2.2.2 h1.2.1.1; simp_all) | (obtain ⟨_, _⟩ := a; obtain ⟨_, _⟩ := b; simp [en_spec_MayHide] at h; obtain ⟨h1, h2⟩ := h; have h3 := List.append_inj h2.2 h1.1; simp_all)
noncomputable def A_spec_rTerrain (b : List DTerrain) (a : ByteArray) : Option R := call G 110 [(slc cTerrain b), (S a)] []
def en_spec_rTerrain : Int → R := fun (a : Int) => (I a, [])
theorem inj_spec_rTerrain : Inj en_spec_rTerrain := fun a b h => by
 simpa [en_spec_rTerrain, Prod.ext_iff, and_assoc] using h
noncomputable def A_impl_isEdge (b : DMap) (a : Int) : Option R := call G 117 [(.agg (cMap b)), (I a)] []
def en_impl_isEdge : Bool → R := fun (a : Bool) => (B a, [])
theorem inj_impl_isEdge : Inj en_impl_isEdge := fun a b h => by
 simpa [en_impl_isEdge, Prod.ext_iff, and_assoc] using h
noncomputable def A_spec_mEdge (a : DMap) (b c : Int) : Option R := call G 126 [(.agg (cMap a)), (I b), (I c)] []
def en_spec_mEdge : Int → R := fun (a : Int) => (I a, [])
theorem inj_spec_mEdge : Inj en_spec_mEdge := fun a b h => by
 simpa [en_spec_mEdge, Prod.ext_iff, and_assoc] using h
noncomputable def A_spec_SeenBy (b : DBoard) (a c : Int) : Option R := call G 119 [(.agg (cBoard b)), (I a), (I c)] []
def en_spec_SeenBy : List Int × Bool → R := fun (a : List Int × Bool) => (AV.tup [slc cI a.fst, B a.snd], [])
theorem inj_spec_SeenBy : Inj en_spec_SeenBy := fun a b h => by
 first | (simpa [en_spec_SeenBy, Prod.ext_iff, and_assoc] using h) | (obtain ⟨_, _⟩ := a; obtain ⟨_, _⟩ := b; simp [en_spec_SeenBy] at h ⊢; simp_all; done) | (obtain ⟨_, _⟩ := a; obtain ⟨_, _⟩ := b; simp [en_spec_SeenBy] at h; obtain ⟨h1, h2⟩ := h; have h3 := List.append_inj h2.2.2 h1.2.1.1; simp_all) | (obtain ⟨_, _⟩ := a; obtain ⟨_, _⟩ := b; simp [en_spec_SeenBy] at h; obtain ⟨h1, h2⟩ := h; have h3 := List.append_inj h2.2 h1.1; simp_all)
noncomputable def A_impl_UnseenHexes (a : DBoard) (b : DView) : Option R := call G 18 [(.agg (cBoard a)), (.agg (cView b))] []
def en_impl_UnseenHexes : List Int × Bool → R := fun (a : List Int × Bool) => (AV.tup [slc cI a.fst, B a.snd], [])
theorem inj_impl_UnseenHexes : Inj en_impl_UnseenHexes := fun a b h => by
 first | (simpa [en_impl_UnseenHexes, Prod.ext_iff, and_assoc] using h) | (obtain ⟨_, _⟩ := a; obtain ⟨_, _⟩ := b; simp [en_impl_UnseenHexes] at h ⊢; simp_all; done) | (obtain ⟨_, _⟩ := a; obtain ⟨_, _⟩ := b; simp [en_impl_UnseenHexes] at h; obtain ⟨h1, h2⟩ := h; have h3 := List.append_inj h2.2.2 h1.2.1.1; simp_all) | (obtain ⟨_, _⟩ := a; obtain ⟨_, _⟩ := b; simp [en_impl_UnseenHexes] at h; obtain ⟨h1, h2⟩ := h; have h3 := List.append_inj h2.2 h1.1; simp_all)
noncomputable def A_impl_isHiding (b : DBoard) (c : DView) (a : Int) : Option R := call G 22 [(.agg (cBoard b)), (.agg (cView c)), (I a)] []
def en_impl_isHiding : Bool → R := fun (a : Bool) => (B a, [])
theorem inj_impl_isHiding : Inj en_impl_isHiding := fun a b h => by
 first | (simpa [en_impl_isHiding, Prod.ext_iff, and_assoc] using h) | (obtain _ := a; obtain _ := b; simp [en_impl_isHiding] at h ⊢; simp_all; done) | (obtain _ := a; obtain _ := b; simp [en_impl_isHiding] at h; obtain ⟨h1, h2⟩ := h; have h3 := List.append_inj h2.2.2 h1.2.1.1; simp_all) | (obtain _ := a; obtain _ := b; simp [en_impl_isHiding] at h; obtain ⟨h1, h2⟩ := h; have h3 := List.append_inj h2.2 h1.1; simp_all)
noncomputable def A_spec_vBy (b : DBoard) (a c : Int) : Option R := call G 127 [(.agg (cBoard b)), (I a), (I c)] []
def en_spec_vBy : List Int → R := fun (a : List Int) => (slc cI a, [])
theorem inj_spec_vBy : Inj en_spec_vBy := fun a b h => by
 first | (simpa [en_spec_vBy, Prod.ext_iff, and_assoc] using h) | (obtain _ := a; obtain _ := b; simp [en_spec_vBy] at h ⊢; simp_all; done) | (obtain _ := a; obtain _ := b; simp [en_spec_vBy] at h; obtain ⟨h1, h2⟩ := h; have h3 := List.append_inj h2.2.2 h1.2.1.1; simp_all) | (obtain _ := a; obtain _ := b; simp [en_spec_vBy] at h; obtain ⟨h1, h2⟩ := h; have h3 := List.append_inj h2.2 h1.1; simp_all)
noncomputable def A_spec_yAsked (a : DBoard) (b : DView) : Option R := call G 24 [(.agg (cBoard a)), (.agg (cView b))] []
def en_spec_yAsked : Bool → R := fun (a : Bool) => (B a, [])
theorem inj_spec_yAsked : Inj en_spec_yAsked := fun a b h => by
 first | (simpa [en_spec_yAsked, Prod.ext_iff, and_assoc] using h) | (obtain _ := a; obtain _ := b; simp [en_spec_yAsked] at h ⊢; simp_all; done) | (obtain _ := a; obtain _ := b; simp [en_spec_yAsked] at h; obtain ⟨h1, h2⟩ := h; have h3 := List.append_inj h2.2.2 h1.2.1.1; simp_all) | (obtain _ := a; obtain _ := b; simp [en_spec_yAsked] at h; obtain ⟨h1, h2⟩ := h; have h3 := List.append_inj h2.2 h1.1; simp_all)
noncomputable def A_spec_mNext (a : DMap) (b c : Int) : Option R := call G 35 [(.agg (cMap a)), (I b), (I c)] []
def en_spec_mNext : Int → R := fun (a : Int) => (I a, [])
theorem inj_spec_mNext : Inj en_spec_mNext := fun a b h => by
 simpa [en_spec_mNext, Prod.ext_iff, and_assoc] using h
noncomputable def A_sc_among (b : Dl1Cur) (a : List Int) : Option R := call G 50 [(AV.ptr (Id.l 0) none 0), (slc cI a)] [(Id.l 0, bl (cl1Cur b))]
noncomputable def A_impl_sizeOf (a : DBoard) : Option R := call G 33 [(.agg (cBoard a))] []
def en_impl_sizeOf : Int → R := fun (a : Int) => (I a, [])
theorem inj_impl_sizeOf : Inj en_impl_sizeOf := fun a b h => by
 simpa [en_impl_sizeOf, Prod.ext_iff, and_assoc] using h
noncomputable def A_impl_isIndex (b a : Int) : Option R := call G 32 [(I b), (I a)] []
def en_impl_isIndex : Bool → R := fun (a : Bool) => (B a, [])
theorem inj_impl_isIndex : Inj en_impl_isIndex := fun a b h => by
 simpa [en_impl_isIndex, Prod.ext_iff, and_assoc] using h
noncomputable def A_impl_isSide (a : Int) : Option R := call G 74 [(I a)] []
def en_impl_isSide : Bool → R := fun (a : Bool) => (B a, [])
theorem inj_impl_isSide : Inj en_impl_isSide := fun a b h => by
 simpa [en_impl_isSide, Prod.ext_iff, and_assoc] using h
noncomputable def A_laws_big (a b : KSl) : Option R := call G 4 [(Kn a), (Kn b)] []
def en_laws_big : Bool → R := fun (a : Bool) => (B a, [])
theorem inj_laws_big : Inj en_laws_big := fun a b h => by
 simpa [en_laws_big, Prod.ext_iff, and_assoc] using h
noncomputable def A_impl_MayHide (b : DBoard) (c : DView) (a : Int) : Option R := call G 6 [(.agg (cBoard b)), (.agg (cView c)), (I a)] []
def en_impl_MayHide : List Int × Bool → R := fun (a : List Int × Bool) => (AV.tup [slc cI a.fst, B a.snd], [])
theorem inj_impl_MayHide : Inj en_impl_MayHide := fun a b h => by
 first | (simpa [en_impl_MayHide, Prod.ext_iff, and_assoc] using h) | (obtain ⟨_, _⟩ := a; obtain ⟨_, _⟩ := b; simp [en_impl_MayHide] at h ⊢; simp_all; done) | (obtain ⟨_, _⟩ := a; obtain ⟨_, _⟩ := b; simp [en_impl_MayHide] at h; obtain ⟨h1, h2⟩ := h; have h3 := List.append_inj h2.2.2 h1.2.1.1; simp_all) | (obtain ⟨_, _⟩ := a; obtain ⟨_, _⟩ := b; simp [en_impl_MayHide] at h; obtain ⟨h1, h2⟩ := h; have h3 := List.append_inj h2.2 h1.1; simp_all)
noncomputable def A_laws_sameInts (a b : List Int) : Option R := call G 8 [(slc cI a), (slc cI b)] []
def en_laws_sameInts : Bool → R := fun (a : Bool) => (B a, [])
theorem inj_laws_sameInts : Inj en_laws_sameInts := fun a b h => by
 simpa [en_laws_sameInts, Prod.ext_iff, and_assoc] using h
noncomputable def A_impl_CountHidings (b : DBoard) (c : DView) (a d : Int) : Option R := call G 9 [(.agg (cBoard b)), (.agg (cView c)), (I a), (I d)] []
def en_impl_CountHidings : Int × Bool → R := fun (a : Int × Bool) => (AV.tup [I a.fst, B a.snd], [])
theorem inj_impl_CountHidings : Inj en_impl_CountHidings := fun a b h => by
 first | (simpa [en_impl_CountHidings, Prod.ext_iff, and_assoc] using h) | (obtain ⟨_, _⟩ := a; obtain ⟨_, _⟩ := b; simp [en_impl_CountHidings] at h ⊢; simp_all; done) | (obtain ⟨_, _⟩ := a; obtain ⟨_, _⟩ := b; simp [en_impl_CountHidings] at h; obtain ⟨h1, h2⟩ := h; have h3 := List.append_inj h2.2.2 h1.2.1.1; simp_all) | (obtain ⟨_, _⟩ := a; obtain ⟨_, _⟩ := b; simp [en_impl_CountHidings] at h; obtain ⟨h1, h2⟩ := h; have h3 := List.append_inj h2.2 h1.1; simp_all)
noncomputable def A_spec_CountHidings (b : DBoard) (c : DView) (a d : Int) : Option R := call G 11 [(.agg (cBoard b)), (.agg (cView c)), (I a), (I d)] []
def en_spec_CountHidings : Int × Bool → R := fun (a : Int × Bool) => (AV.tup [I a.fst, B a.snd], [])
theorem inj_spec_CountHidings : Inj en_spec_CountHidings := fun a b h => by
 first | (simpa [en_spec_CountHidings, Prod.ext_iff, and_assoc] using h) | (obtain ⟨_, _⟩ := a; obtain ⟨_, _⟩ := b; simp [en_spec_CountHidings] at h ⊢; simp_all; done) | (obtain ⟨_, _⟩ := a; obtain ⟨_, _⟩ := b; simp [en_spec_CountHidings] at h; obtain ⟨h1, h2⟩ := h; have h3 := List.append_inj h2.2.2 h1.2.1.1; simp_all) | (obtain ⟨_, _⟩ := a; obtain ⟨_, _⟩ := b; simp [en_spec_CountHidings] at h; obtain ⟨h1, h2⟩ := h; have h3 := List.append_inj h2.2 h1.1; simp_all)
noncomputable def A_spec_DrawHiddenThreat (a : KSl) : Option R := call G 12 [(Kn a)] []
def en_spec_DrawHiddenThreat : DBoard × DView × Int → R := fun (a : DBoard × DView × Int) => (AV.tup [AV.agg (cBoard a.fst), AV.agg (cView a.snd.fst), I a.snd.snd], [])
theorem inj_spec_DrawHiddenThreat : Inj en_spec_DrawHiddenThreat := fun a b h => by
 first | (simpa [en_spec_DrawHiddenThreat, Prod.ext_iff, and_assoc] using h) | (obtain ⟨⟨⟨_, _, _, _, _, _, _⟩, ⟨_, _, _, _, _⟩⟩, ⟨⟨_, _, _, _, _, _⟩, _⟩⟩ := a; obtain ⟨⟨⟨_, _, _, _, _, _, _⟩, ⟨_, _, _, _, _⟩⟩, ⟨⟨_, _, _, _, _, _⟩, _⟩⟩ := b; simp [en_spec_DrawHiddenThreat] at h ⊢; simp_all; done) | (obtain ⟨⟨⟨_, _, _, _, _, _, _⟩, ⟨_, _, _, _, _⟩⟩, ⟨⟨_, _, _, _, _, _⟩, _⟩⟩ := a; obtain ⟨⟨⟨_, _, _, _, _, _, _⟩, ⟨_, _, _, _, _⟩⟩, ⟨⟨_, _, _, _, _, _⟩, _⟩⟩ := b; simp [en_spec_DrawHiddenThreat] at h; obtain ⟨h1, h2⟩ := h; have h3 := List.append_inj h2.2.2 h1.2.1.1; simp_all) | (obtain ⟨⟨⟨_, _, _, _, _, _, _⟩, ⟨_, _, _, _, _⟩⟩, ⟨⟨_, _, _, _, _, _⟩, _⟩⟩ := a; obtain ⟨⟨⟨_, _, _, _, _, _, _⟩, ⟨_, _, _, _, _⟩⟩, ⟨⟨_, _, _, _, _, _⟩, _⟩⟩ := b; simp [en_spec_DrawHiddenThreat] at h; obtain ⟨h1, h2⟩ := h; have h3 := List.append_inj h2.2 h1.1; simp_all)
noncomputable def A_impl_HiddenThreat (a : DBoard) (b : DView) (c : Int) : Option R := call G 13 [(.agg (cBoard a)), (.agg (cView b)), (I c)] []
def en_impl_HiddenThreat : Int × Bool → R := fun (a : Int × Bool) => (AV.tup [I a.fst, B a.snd], [])
theorem inj_impl_HiddenThreat : Inj en_impl_HiddenThreat := fun a b h => by
 first | (simpa [en_impl_HiddenThreat, Prod.ext_iff, and_assoc] using h) | (obtain ⟨_, _⟩ := a; obtain ⟨_, _⟩ := b; simp [en_impl_HiddenThreat] at h ⊢; simp_all; done) | (obtain ⟨_, _⟩ := a; obtain ⟨_, _⟩ := b; simp [en_impl_HiddenThreat] at h; obtain ⟨h1, h2⟩ := h; have h3 := List.append_inj h2.2.2 h1.2.1.1; simp_all) | (obtain ⟨_, _⟩ := a; obtain ⟨_, _⟩ := b; simp [en_impl_HiddenThreat] at h; obtain ⟨h1, h2⟩ := h; have h3 := List.append_inj h2.2 h1.1; simp_all)
noncomputable def A_spec_DrawNewsOf (a : KSl) : Option R := call G 15 [(Kn a)] []
def en_spec_DrawNewsOf : DBoard × DView × DView → R := fun (a : DBoard × DView × DView) => (AV.tup [AV.agg (cBoard a.fst), AV.agg (cView a.snd.fst), AV.agg (cView a.snd.snd)], [])
theorem inj_spec_DrawNewsOf : Inj en_spec_DrawNewsOf := fun a b h => by
 first | (simpa [en_spec_DrawNewsOf, Prod.ext_iff, and_assoc] using h) | (obtain ⟨⟨⟨_, _, _, _, _, _, _⟩, ⟨_, _, _, _, _⟩⟩, ⟨⟨_, _, _, _, _, _⟩, ⟨_, _, _, _, _, _⟩⟩⟩ := a; obtain ⟨⟨⟨_, _, _, _, _, _, _⟩, ⟨_, _, _, _, _⟩⟩, ⟨⟨_, _, _, _, _, _⟩, ⟨_, _, _, _, _, _⟩⟩⟩ := b; simp [en_spec_DrawNewsOf] at h ⊢; simp_all; done) | (obtain ⟨⟨⟨_, _, _, _, _, _, _⟩, ⟨_, _, _, _, _⟩⟩, ⟨⟨_, _, _, _, _, _⟩, ⟨_, _, _, _, _, _⟩⟩⟩ := a; obtain ⟨⟨⟨_, _, _, _, _, _, _⟩, ⟨_, _, _, _, _⟩⟩, ⟨⟨_, _, _, _, _, _⟩, ⟨_, _, _, _, _, _⟩⟩⟩ := b; simp [en_spec_DrawNewsOf] at h; obtain ⟨h1, h2⟩ := h; have h3 := List.append_inj h2.2.2 h1.2.1.1; simp_all) | (obtain ⟨⟨⟨_, _, _, _, _, _, _⟩, ⟨_, _, _, _, _⟩⟩, ⟨⟨_, _, _, _, _, _⟩, ⟨_, _, _, _, _, _⟩⟩⟩ := a; obtain ⟨⟨⟨_, _, _, _, _, _, _⟩, ⟨_, _, _, _, _⟩⟩, ⟨⟨_, _, _, _, _, _⟩, ⟨_, _, _, _, _, _⟩⟩⟩ := b; simp [en_spec_DrawNewsOf] at h; obtain ⟨h1, h2⟩ := h; have h3 := List.append_inj h2.2 h1.1; simp_all)
noncomputable def A_impl_NewsOf (a : DBoard) (b c : DView) : Option R := call G 16 [(.agg (cBoard a)), (.agg (cView b)), (.agg (cView c))] []
def en_impl_NewsOf : List Int × List Int × List Int × List Int × Bool → R := fun (a : List Int × List Int × List Int × List Int × Bool) => (AV.tup [slc cI a.fst, slc cI a.snd.fst, slc cI a.snd.snd.fst, slc cI a.snd.snd.snd.fst, B a.snd.snd.snd.snd], [])
theorem inj_impl_NewsOf : Inj en_impl_NewsOf := fun a b h => by
 first | (simpa [en_impl_NewsOf, Prod.ext_iff, and_assoc] using h) | (obtain ⟨_, ⟨_, ⟨_, ⟨_, _⟩⟩⟩⟩ := a; obtain ⟨_, ⟨_, ⟨_, ⟨_, _⟩⟩⟩⟩ := b; simp [en_impl_NewsOf] at h ⊢; simp_all; done) | (obtain ⟨_, ⟨_, ⟨_, ⟨_, _⟩⟩⟩⟩ := a; obtain ⟨_, ⟨_, ⟨_, ⟨_, _⟩⟩⟩⟩ := b; simp [en_impl_NewsOf] at h; obtain ⟨h1, h2⟩ := h; have h3 := List.append_inj h2.2.2 h1.2.1.1; simp_all) | (obtain ⟨_, ⟨_, ⟨_, ⟨_, _⟩⟩⟩⟩ := a; obtain ⟨_, ⟨_, ⟨_, ⟨_, _⟩⟩⟩⟩ := b; simp [en_impl_NewsOf] at h; obtain ⟨h1, h2⟩ := h; have h3 := List.append_inj h2.2 h1.1; simp_all)
noncomputable def A_spec_UnseenHexes (a : DBoard) (b : DView) : Option R := call G 19 [(.agg (cBoard a)), (.agg (cView b))] []
def en_spec_UnseenHexes : List Int × Bool → R := fun (a : List Int × Bool) => (AV.tup [slc cI a.fst, B a.snd], [])
theorem inj_spec_UnseenHexes : Inj en_spec_UnseenHexes := fun a b h => by
 first | (simpa [en_spec_UnseenHexes, Prod.ext_iff, and_assoc] using h) | (obtain ⟨_, _⟩ := a; obtain ⟨_, _⟩ := b; simp [en_spec_UnseenHexes] at h ⊢; simp_all; done) | (obtain ⟨_, _⟩ := a; obtain ⟨_, _⟩ := b; simp [en_spec_UnseenHexes] at h; obtain ⟨h1, h2⟩ := h; have h3 := List.append_inj h2.2.2 h1.2.1.1; simp_all) | (obtain ⟨_, _⟩ := a; obtain ⟨_, _⟩ := b; simp [en_spec_UnseenHexes] at h; obtain ⟨h1, h2⟩ := h; have h3 := List.append_inj h2.2 h1.1; simp_all)
noncomputable def A_spec_bGood (a : DBoard) : Option R := call G 56 [(.agg (cBoard a))] []
def en_spec_bGood : Bool → R := fun (a : Bool) => (B a, [])
theorem inj_spec_bGood : Inj en_spec_bGood := fun a b h => by
 simpa [en_spec_bGood, Prod.ext_iff, and_assoc] using h
noncomputable def A_spec_l1In (c a b : Int) : Option R := call G 29 [(I c), (I a), (I b)] []
def en_spec_l1In : Bool → R := fun (a : Bool) => (B a, [])
theorem inj_spec_l1In : Inj en_spec_l1In := fun a b h => by
 simpa [en_spec_l1In, Prod.ext_iff, and_assoc] using h
noncomputable def A_sc_pick (a : Dl1Cur) (b : Int) : Option R := call G 28 [(AV.ptr (Id.l 0) none 0), (I b)] [(Id.l 0, bl (cl1Cur a))]
def en_sc_pick : Int × Dl1Cur → R := fun (a : Int × Dl1Cur) => (I a.fst, [(Id.l 0, bl (cl1Cur a.snd))])
theorem inj_sc_pick : Inj en_sc_pick := fun a b h => by
 simpa [en_sc_pick, Prod.ext_iff, and_assoc] using h
noncomputable def A_spec_bAt (b : DBoard) (a c : Int) : Option R := call G 25 [(.agg (cBoard b)), (I a), (I c)] []
def en_spec_bAt : Bool → R := fun (a : Bool) => (B a, [])
theorem inj_spec_bAt : Inj en_spec_bAt := fun a b h => by
 first | (simpa [en_spec_bAt, Prod.ext_iff, and_assoc] using h) | (obtain _ := a; obtain _ := b; simp [en_spec_bAt] at h ⊢; simp_all; done) | (obtain _ := a; obtain _ := b; simp [en_spec_bAt] at h; obtain ⟨h1, h2⟩ := h; have h3 := List.append_inj h2.2.2 h1.2.1.1; simp_all) | (obtain _ := a; obtain _ := b; simp [en_spec_bAt] at h; obtain ⟨h1, h2⟩ := h; have h3 := List.append_inj h2.2 h1.1; simp_all)
noncomputable def A_spec_yOnly (a b : List Int) : Option R := call G 44 [(slc cI a), (slc cI b)] []
def en_spec_yOnly : List Int → R := fun (a : List Int) => (slc cI a, [])
theorem inj_spec_yOnly : Inj en_spec_yOnly := fun a b h => by
 first | (simpa [en_spec_yOnly, Prod.ext_iff, and_assoc] using h) | (obtain _ := a; obtain _ := b; simp [en_spec_yOnly] at h ⊢; simp_all; done) | (obtain _ := a; obtain _ := b; simp [en_spec_yOnly] at h; obtain ⟨h1, h2⟩ := h; have h3 := List.append_inj h2.2.2 h1.2.1.1; simp_all) | (obtain _ := a; obtain _ := b; simp [en_spec_yOnly] at h; obtain ⟨h1, h2⟩ := h; have h3 := List.append_inj h2.2 h1.1; simp_all)
noncomputable def A_spec_yNew (a b : List DUnit) : Option R := call G 45 [(slc cUnit a), (slc cUnit b)] []
def en_spec_yNew : List Int → R := fun (a : List Int) => (slc cI a, [])
theorem inj_spec_yNew : Inj en_spec_yNew := fun a b h => by
 first | (simpa [en_spec_yNew, Prod.ext_iff, and_assoc] using h) | (obtain _ := a; obtain _ := b; simp [en_spec_yNew] at h ⊢; simp_all; done) | (obtain _ := a; obtain _ := b; simp [en_spec_yNew] at h; obtain ⟨h1, h2⟩ := h; have h3 := List.append_inj h2.2.2 h1.2.1.1; simp_all) | (obtain _ := a; obtain _ := b; simp [en_spec_yNew] at h; obtain ⟨h1, h2⟩ := h; have h3 := List.append_inj h2.2 h1.1; simp_all)
noncomputable def A_spec_yUnseen (a : DBoard) (b : DView) : Option R := call G 49 [(.agg (cBoard a)), (.agg (cView b))] []
def en_spec_yUnseen : List Int → R := fun (a : List Int) => (slc cI a, [])
theorem inj_spec_yUnseen : Inj en_spec_yUnseen := fun a b h => by
 first | (simpa [en_spec_yUnseen, Prod.ext_iff, and_assoc] using h) | (obtain _ := a; obtain _ := b; simp [en_spec_yUnseen] at h ⊢; simp_all; done) | (obtain _ := a; obtain _ := b; simp [en_spec_yUnseen] at h; obtain ⟨h1, h2⟩ := h; have h3 := List.append_inj h2.2.2 h1.2.1.1; simp_all) | (obtain _ := a; obtain _ := b; simp [en_spec_yUnseen] at h; obtain ⟨h1, h2⟩ := h; have h3 := List.append_inj h2.2 h1.1; simp_all)
noncomputable def A_spec_mSize (a : DMap) : Option R := call G 58 [(.agg (cMap a))] []
def en_spec_mSize : Int → R := fun (a : Int) => (I a, [])
theorem inj_spec_mSize : Inj en_spec_mSize := fun a b h => by
 simpa [en_spec_mSize, Prod.ext_iff, and_assoc] using h
noncomputable def A_spec_l1All (c : List Int) (a b : Int) : Option R := call G 90 [(slc cI c), (I a), (I b)] []
def en_spec_l1All : Bool → R := fun (a : Bool) => (B a, [])
theorem inj_spec_l1All : Inj en_spec_l1All := fun a b h => by
 simpa [en_spec_l1All, Prod.ext_iff, and_assoc] using h
noncomputable def A_spec_mEdges (a : DMap) (b : List Int) : Option R := call G 112 [(.agg (cMap a)), (slc cI b)] []
def en_spec_mEdges : Bool → R := fun (a : Bool) => (B a, [])
theorem inj_spec_mEdges : Inj en_spec_mEdges := fun a b h => by
 simpa [en_spec_mEdges, Prod.ext_iff, and_assoc] using h
noncomputable def A_sc_view (a : Dl1Cur) : Option R := call G 20 [(AV.ptr (Id.l 0) none 0)] [(Id.l 0, bl (cl1Cur a))]
def en_sc_view : (DBoard × DView) × Dl1Cur → R := fun (a : (DBoard × DView) × Dl1Cur) => (AV.tup [AV.agg (cBoard a.fst.fst), AV.agg [I a.fst.snd.Side, I a.fst.snd.Turn, I a.fst.snd.Weather, AV.own (Id.r 0 0) none 0 a.fst.snd.Seen.length a.fst.snd.Seen.length, AV.own (Id.r 0 1) none 0 a.fst.snd.Own.length a.fst.snd.Own.length, AV.own (Id.r 0 2) none 0 a.fst.snd.Enemies.length a.fst.snd.Enemies.length]], [(Id.l 0, bl (cl1Cur a.snd)), (Id.r 0 0, some (rowB true false 1 cI a.fst.snd.Seen)), (Id.r 0 1, some (rowB true false 4 cUnit a.fst.snd.Own)), (Id.r 0 2, some (rowB true false 4 cUnit a.fst.snd.Enemies))])
theorem inj_sc_view : Inj en_sc_view := fun a b h => by
 first | (simpa [en_sc_view, Prod.ext_iff, and_assoc] using h) | (obtain ⟨⟨⟨⟨_, _, _, _, _, _, _⟩, ⟨_, _, _, _, _⟩⟩, ⟨_, _, _, _, _, _⟩⟩, _⟩ := a; obtain ⟨⟨⟨⟨_, _, _, _, _, _, _⟩, ⟨_, _, _, _, _⟩⟩, ⟨_, _, _, _, _, _⟩⟩, _⟩ := b; simp [en_sc_view] at h ⊢; simp_all; done) | (obtain ⟨⟨⟨⟨_, _, _, _, _, _, _⟩, ⟨_, _, _, _, _⟩⟩, ⟨_, _, _, _, _, _⟩⟩, _⟩ := a; obtain ⟨⟨⟨⟨_, _, _, _, _, _, _⟩, ⟨_, _, _, _, _⟩⟩, ⟨_, _, _, _, _, _⟩⟩, _⟩ := b; simp [en_sc_view] at h; obtain ⟨h1, h2⟩ := h; have h3 := List.append_inj h2.2.2 h1.2.1.1; simp_all) | (obtain ⟨⟨⟨⟨_, _, _, _, _, _, _⟩, ⟨_, _, _, _, _⟩⟩, ⟨_, _, _, _, _, _⟩⟩, _⟩ := a; obtain ⟨⟨⟨⟨_, _, _, _, _, _, _⟩, ⟨_, _, _, _, _⟩⟩, ⟨_, _, _, _, _, _⟩⟩, _⟩ := b; simp [en_sc_view] at h; obtain ⟨h1, h2⟩ := h; have h3 := List.append_inj h2.2 h1.1; simp_all)
noncomputable def A_sc_kindOf (a : Dl1Cur) (b : DBoard) : Option R := call G 21 [(AV.ptr (Id.l 0) none 0), (.agg (cBoard b))] [(Id.l 0, bl (cl1Cur a))]
def en_sc_kindOf : Int × Dl1Cur → R := fun (a : Int × Dl1Cur) => (I a.fst, [(Id.l 0, bl (cl1Cur a.snd))])
theorem inj_sc_kindOf : Inj en_sc_kindOf := fun a b h => by
 first | (simpa [en_sc_kindOf, Prod.ext_iff, and_assoc] using h) | (obtain ⟨_, _⟩ := a; obtain ⟨_, _⟩ := b; simp [en_sc_kindOf] at h ⊢; simp_all; done) | (obtain ⟨_, _⟩ := a; obtain ⟨_, _⟩ := b; simp [en_sc_kindOf] at h; obtain ⟨h1, h2⟩ := h; have h3 := List.append_inj h2.2.2 h1.2.1.1; simp_all) | (obtain ⟨_, _⟩ := a; obtain ⟨_, _⟩ := b; simp [en_sc_kindOf] at h; obtain ⟨h1, h2⟩ := h; have h3 := List.append_inj h2.2 h1.1; simp_all)
noncomputable def A_impl_inRange (c b a : Int) : Option R := call G 27 [(I c), (I b), (I a)] []
def en_impl_inRange : Bool → R := fun (a : Bool) => (B a, [])
theorem inj_impl_inRange : Inj en_impl_inRange := fun a b h => by
 simpa [en_impl_inRange, Prod.ext_iff, and_assoc] using h
noncomputable def A_cf_impl_goodTerrain_1 (a : List Int) : Option R := call G 77 [(slc cI a), (.clo 121 [])] []
def en_cf_impl_goodTerrain_1 : Bool → R := fun (a : Bool) => (B a, [])
theorem inj_cf_impl_goodTerrain_1 : Inj en_cf_impl_goodTerrain_1 := fun a b h => by
 simpa [en_cf_impl_goodTerrain_1, Prod.ext_iff, and_assoc] using h
noncomputable def A_impl_nextTo (a : DMap) (b c : Int) : Option R := call G 63 [(.agg (cMap a)), (I b), (I c)] []
def en_impl_nextTo : Int → R := fun (a : Int) => (I a, [])
theorem inj_impl_nextTo : Inj en_impl_nextTo := fun a b h => by
 simpa [en_impl_nextTo, Prod.ext_iff, and_assoc] using h
noncomputable def A_impl_hasView (a : DBoard) (b : DView) : Option R := call G 31 [(.agg (cBoard a)), (.agg (cView b))] []
def en_impl_hasView : Bool → R := fun (a : Bool) => (B a, [])
theorem inj_impl_hasView : Inj en_impl_hasView := fun a b h => by
 first | (simpa [en_impl_hasView, Prod.ext_iff, and_assoc] using h) | (obtain _ := a; obtain _ := b; simp [en_impl_hasView] at h ⊢; simp_all; done) | (obtain _ := a; obtain _ := b; simp [en_impl_hasView] at h; obtain ⟨h1, h2⟩ := h; have h3 := List.append_inj h2.2.2 h1.2.1.1; simp_all) | (obtain _ := a; obtain _ := b; simp [en_impl_hasView] at h; obtain ⟨h1, h2⟩ := h; have h3 := List.append_inj h2.2 h1.1; simp_all)
noncomputable def A_hT_impl_UnseenHexes_1 (a : DView) (b : DBoard) : Option R := call G 46 [(.agg (cBoard b)), (.clo 47 [(AV.ptr (Id.l 0) none 0)])] [(Id.l 0, bl (cView a))]
def en_hT_impl_UnseenHexes_1 : List Int × DView → R := fun (a : List Int × DView) => (slc cI a.fst, [(Id.l 0, bl (cView a.snd))])
theorem inj_hT_impl_UnseenHexes_1 : Inj en_hT_impl_UnseenHexes_1 := fun a b h => by
 first | (simpa [en_hT_impl_UnseenHexes_1, Prod.ext_iff, and_assoc] using h) | (obtain ⟨_, ⟨_, _, _, _, _, _⟩⟩ := a; obtain ⟨_, ⟨_, _, _, _, _, _⟩⟩ := b; simp [en_hT_impl_UnseenHexes_1] at h ⊢; simp_all; done) | (obtain ⟨_, ⟨_, _, _, _, _, _⟩⟩ := a; obtain ⟨_, ⟨_, _, _, _, _, _⟩⟩ := b; simp [en_hT_impl_UnseenHexes_1] at h; obtain ⟨h1, h2⟩ := h; have h3 := List.append_inj h2.2.2 h1.2.1.1; simp_all) | (obtain ⟨_, ⟨_, _, _, _, _, _⟩⟩ := a; obtain ⟨_, ⟨_, _, _, _, _, _⟩⟩ := b; simp [en_hT_impl_UnseenHexes_1] at h; obtain ⟨h1, h2⟩ := h; have h3 := List.append_inj h2.2 h1.1; simp_all)
noncomputable def A_spec_vSeen (c : DBoard) (d b a : Int) : Option R := call G 128 [(.agg (cBoard c)), (I d), (I b), (I a)] []
def en_spec_vSeen : List Int → R := fun (a : List Int) => (slc cI a, [])
theorem inj_spec_vSeen : Inj en_spec_vSeen := fun a b h => by
 first | (simpa [en_spec_vSeen, Prod.ext_iff, and_assoc] using h) | (obtain _ := a; obtain _ := b; simp [en_spec_vSeen] at h ⊢; simp_all; done) | (obtain _ := a; obtain _ := b; simp [en_spec_vSeen] at h; obtain ⟨h1, h2⟩ := h; have h3 := List.append_inj h2.2.2 h1.2.1.1; simp_all) | (obtain _ := a; obtain _ := b; simp [en_spec_vSeen] at h; obtain ⟨h1, h2⟩ := h; have h3 := List.append_inj h2.2 h1.1; simp_all)
noncomputable def A_spec_yGood (a : DBoard) (b : DView) : Option R := call G 57 [(.agg (cBoard a)), (.agg (cView b))] []
def en_spec_yGood : Bool → R := fun (a : Bool) => (B a, [])
theorem inj_spec_yGood : Inj en_spec_yGood := fun a b h => by
 first | (simpa [en_spec_yGood, Prod.ext_iff, and_assoc] using h) | (obtain _ := a; obtain _ := b; simp [en_spec_yGood] at h ⊢; simp_all; done) | (obtain _ := a; obtain _ := b; simp [en_spec_yGood] at h; obtain ⟨h1, h2⟩ := h; have h3 := List.append_inj h2.2.2 h1.2.1.1; simp_all) | (obtain _ := a; obtain _ := b; simp [en_spec_yGood] at h; obtain ⟨h1, h2⟩ := h; have h3 := List.append_inj h2.2 h1.1; simp_all)
noncomputable def A_spec_mHex (a : DMap) (b : Int) : Option R := call G 66 [(.agg (cMap a)), (I b)] []
def en_spec_mHex : DHex → R := fun (a : DHex) => (AV.agg (cHex a), [])
theorem inj_spec_mHex : Inj en_spec_mHex := fun a b h => by
 simpa [en_spec_mHex, Prod.ext_iff, and_assoc] using h
noncomputable def A_spec_hStep (a : DHex) (b : Int) : Option R := call G 65 [(.agg (cHex a)), (I b)] []
def en_spec_hStep : DHex → R := fun (a : DHex) => (AV.agg (cHex a), [])
theorem inj_spec_hStep : Inj en_spec_hStep := fun a b h => by
 simpa [en_spec_hStep, Prod.ext_iff, and_assoc] using h
noncomputable def A_spec_sUnit (a : DBoard) (b : DUnit) : Option R := call G 102 [(.agg (cBoard a)), (.agg (cUnit b))] []
def en_spec_sUnit : Bool → R := fun (a : Bool) => (B a, [])
theorem inj_spec_sUnit : Inj en_spec_sUnit := fun a b h => by
 simpa [en_spec_sUnit, Prod.ext_iff, and_assoc] using h
noncomputable def A_sc_one (a : Dl1Cur) (b : Int) : Option R := call G 40 [(AV.ptr (Id.l 0) none 0), (I b)] [(Id.l 0, bl (cl1Cur a))]
def en_sc_one : Bool × Dl1Cur → R := fun (a : Bool × Dl1Cur) => (B a.fst, [(Id.l 0, bl (cl1Cur a.snd))])
theorem inj_sc_one : Inj en_sc_one := fun a b h => by
 simpa [en_sc_one, Prod.ext_iff, and_assoc] using h
noncomputable def A_sc_place (a : Dl1Cur) (b : DMap) : Option R := call G 30 [(AV.ptr (Id.l 0) none 0), (.agg (cMap b))] [(Id.l 0, bl (cl1Cur a))]
def en_sc_place : Int × Dl1Cur → R := fun (a : Int × Dl1Cur) => (I a.fst, [(Id.l 0, bl (cl1Cur a.snd))])
theorem inj_sc_place : Inj en_sc_place := fun a b h => by
 simpa [en_sc_place, Prod.ext_iff, and_assoc] using h
noncomputable def A_spec_bCost (b : DBoard) (a c : Int) : Option R := call G 59 [(.agg (cBoard b)), (I a), (I c)] []
def en_spec_bCost : Int → R := fun (a : Int) => (I a, [])
theorem inj_spec_bCost : Inj en_spec_bCost := fun a b h => by
 simpa [en_spec_bCost, Prod.ext_iff, and_assoc] using h
noncomputable def A_sc_edges (a : Dl1Cur) (b : DMap) : Option R := call G 118 [(AV.ptr (Id.l 0) none 0), (.agg (cMap b))] [(Id.l 0, bl (cl1Cur a))]
def en_sc_edges : List Int × Dl1Cur → R := fun (a : List Int × Dl1Cur) => (AV.own (Id.r 0 0) none 0 a.fst.length a.fst.length, [(Id.l 0, bl (cl1Cur a.snd)), (Id.r 0 0, some (rowB true false 1 cI a.fst))])
theorem inj_sc_edges : Inj en_sc_edges := fun a b h => by
 first | (simpa [en_sc_edges, Prod.ext_iff, and_assoc] using h) | (obtain ⟨_, _⟩ := a; obtain ⟨_, _⟩ := b; simp [en_sc_edges] at h ⊢; simp_all; done) | (obtain ⟨_, _⟩ := a; obtain ⟨_, _⟩ := b; simp [en_sc_edges] at h; obtain ⟨h1, h2⟩ := h; have h3 := List.append_inj h2.2.2 h1.2.1.1; simp_all) | (obtain ⟨_, _⟩ := a; obtain ⟨_, _⟩ := b; simp [en_sc_edges] at h; obtain ⟨h1, h2⟩ := h; have h3 := List.append_inj h2.2 h1.1; simp_all)
noncomputable def A_xf_impl_goodTerrain_1 (a : List Int) : Option R := call G 106 [(slc cI a), (.clo 121 [])] []
def en_xf_impl_goodTerrain_1 : Int → R := fun (a : Int) => (I a, [])
theorem inj_xf_impl_goodTerrain_1 : Inj en_xf_impl_goodTerrain_1 := fun a b h => by
 simpa [en_xf_impl_goodTerrain_1, Prod.ext_iff, and_assoc] using h
noncomputable def A_spec_hDistance (a b : DHex) : Option R := call G 131 [(.agg (cHex a)), (.agg (cHex b))] []
def en_spec_hDistance : Int → R := fun (a : Int) => (I a, [])
theorem inj_spec_hDistance : Inj en_spec_hDistance := fun a b h => by
 first | (simpa [en_spec_hDistance, Prod.ext_iff, and_assoc] using h) | (obtain _ := a; obtain _ := b; simp [en_spec_hDistance] at h ⊢; simp_all; done) | (obtain _ := a; obtain _ := b; simp [en_spec_hDistance] at h; obtain ⟨h1, h2⟩ := h; have h3 := List.append_inj h2.2.2 h1.2.1.1; simp_all) | (obtain _ := a; obtain _ := b; simp [en_spec_hDistance] at h; obtain ⟨h1, h2⟩ := h; have h3 := List.append_inj h2.2 h1.1; simp_all)
noncomputable def A_spec_sAt (b : DState) (c a : Int) : Option R := call G 103 [(.agg (cState b)), (I c), (I a)] []
def en_spec_sAt : List Int → R := fun (a : List Int) => (slc cI a, [])
theorem inj_spec_sAt : Inj en_spec_sAt := fun a b h => by
 simpa [en_spec_sAt, Prod.ext_iff, and_assoc] using h
noncomputable def A_spec_l1Has (a : List Int) (b : Int) : Option R := call G 36 [(slc cI a), (I b)] []
def en_spec_l1Has : Bool → R := fun (a : Bool) => (B a, [])
theorem inj_spec_l1Has : Inj en_spec_l1Has := fun a b h => by
 simpa [en_spec_l1Has, Prod.ext_iff, and_assoc] using h
noncomputable def A_impl_goodTerrain_1 (a : Int) : Option R := call G 121 [(I a)] []
def en_impl_goodTerrain_1 : Bool → R := fun (a : Bool) => (B a, [])
theorem inj_impl_goodTerrain_1 : Inj en_impl_goodTerrain_1 := fun a b h => by
 simpa [en_impl_goodTerrain_1, Prod.ext_iff, and_assoc] using h
noncomputable def A_spec_rGood (a : DRules) : Option R := call G 88 [(.agg (cRules a))] []
def en_spec_rGood : Bool → R := fun (a : Bool) => (B a, [])
theorem inj_spec_rGood : Inj en_spec_rGood := fun a b h => by
 simpa [en_spec_rGood, Prod.ext_iff, and_assoc] using h
noncomputable def A_spec_hCells (a b : DHex) (c d : Int) : Option R := call G 138 [(.agg (cHex a)), (.agg (cHex b)), (I c), (I d)] []
def en_spec_hCells : List DHex → R := fun (a : List DHex) => (slc cHex a, [])
theorem inj_spec_hCells : Inj en_spec_hCells := fun a b h => by
 first | (simpa [en_spec_hCells, Prod.ext_iff, and_assoc] using h) | (obtain _ := a; obtain _ := b; simp [en_spec_hCells] at h ⊢; simp_all; done) | (obtain _ := a; obtain _ := b; simp [en_spec_hCells] at h; obtain ⟨h1, h2⟩ := h; have h3 := List.append_inj h2.2.2 h1.2.1.1; simp_all) | (obtain _ := a; obtain _ := b; simp [en_spec_hCells] at h; obtain ⟨h1, h2⟩ := h; have h3 := List.append_inj h2.2 h1.1; simp_all)
noncomputable def A_sc_next (a : Dl1Cur) : Option R := call G 60 [(AV.ptr (Id.l 0) none 0)] [(Id.l 0, bl (cl1Cur a))]
noncomputable def A_spec_vCells (a : DBoard) (b c : Int) : Option R := call G 133 [(.agg (cBoard a)), (I b), (I c)] []
def en_spec_vCells : List (List Int) → R := fun (a : List (List Int)) => (slc cLI a, [])
theorem inj_spec_vCells : Inj en_spec_vCells := fun a b h => by
 first | (simpa [en_spec_vCells, Prod.ext_iff, and_assoc] using h) | (obtain _ := a; obtain _ := b; simp [en_spec_vCells] at h ⊢; simp_all; done) | (obtain _ := a; obtain _ := b; simp [en_spec_vCells] at h; obtain ⟨h1, h2⟩ := h; have h3 := List.append_inj h2.2.2 h1.2.1.1; simp_all) | (obtain _ := a; obtain _ := b; simp [en_spec_vCells] at h; obtain ⟨h1, h2⟩ := h; have h3 := List.append_inj h2.2 h1.1; simp_all)
noncomputable def A_spec_hNear (a b : Int) : Option R := call G 140 [(I a), (I b)] []
def en_spec_hNear : List Int → R := fun (a : List Int) => (slc cI a, [])
theorem inj_spec_hNear : Inj en_spec_hNear := fun a b h => by
 first | (simpa [en_spec_hNear, Prod.ext_iff, and_assoc] using h) | (obtain _ := a; obtain _ := b; simp [en_spec_hNear] at h ⊢; simp_all; done) | (obtain _ := a; obtain _ := b; simp [en_spec_hNear] at h; obtain ⟨h1, h2⟩ := h; have h3 := List.append_inj h2.2.2 h1.2.1.1; simp_all) | (obtain _ := a; obtain _ := b; simp [en_spec_hNear] at h; obtain ⟨h1, h2⟩ := h; have h3 := List.append_inj h2.2 h1.1; simp_all)
noncomputable def A_spec_fgSeen (b : DBoard) (c : DState) (a : Int) : Option R := call G 72 [(.agg (cBoard b)), (.agg (cState c)), (I a)] []
noncomputable def A_spec_sOf (b : DState) (a : Int) : Option R := call G 70 [(.agg (cState b)), (I a)] []
def en_spec_sOf : List Int → R := fun (a : List Int) => (AV.own (Id.r 0 0) none 0 a.length a.length, [(Id.r 0 0, some (rowB true false 1 cI a))])
theorem inj_spec_sOf : Inj en_spec_sOf := fun a b h => by
 first | (simpa [en_spec_sOf, Prod.ext_iff, and_assoc] using h) | (obtain _ := a; obtain _ := b; simp [en_spec_sOf] at h ⊢; simp_all; done) | (obtain _ := a; obtain _ := b; simp [en_spec_sOf] at h; obtain ⟨h1, h2⟩ := h; have h3 := List.append_inj h2.2.2 h1.2.1.1; simp_all) | (obtain _ := a; obtain _ := b; simp [en_spec_sOf] at h; obtain ⟨h1, h2⟩ := h; have h3 := List.append_inj h2.2 h1.1; simp_all)
noncomputable def A_spec_vCode (a : DBoard) (b c : Int) : Option R := call G 130 [(.agg (cBoard a)), (I b), (I c)] []
def en_spec_vCode : Int → R := fun (a : Int) => (I a, [])
theorem inj_spec_vCode : Inj en_spec_vCode := fun a b h => by
 first | (simpa [en_spec_vCode, Prod.ext_iff, and_assoc] using h) | (obtain _ := a; obtain _ := b; simp [en_spec_vCode] at h ⊢; simp_all; done) | (obtain _ := a; obtain _ := b; simp [en_spec_vCode] at h; obtain ⟨h1, h2⟩ := h; have h3 := List.append_inj h2.2.2 h1.2.1.1; simp_all) | (obtain _ := a; obtain _ := b; simp [en_spec_vCode] at h; obtain ⟨h1, h2⟩ := h; have h3 := List.append_inj h2.2 h1.1; simp_all)
noncomputable def A_spec_vFirst (a : DBoard) (b c : Int) : Option R := call G 132 [(.agg (cBoard a)), (I b), (I c)] []
def en_spec_vFirst : Int → R := fun (a : Int) => (I a, [])
theorem inj_spec_vFirst : Inj en_spec_vFirst := fun a b h => by
 first | (simpa [en_spec_vFirst, Prod.ext_iff, and_assoc] using h) | (obtain _ := a; obtain _ := b; simp [en_spec_vFirst] at h ⊢; simp_all; done) | (obtain _ := a; obtain _ := b; simp [en_spec_vFirst] at h; obtain ⟨h1, h2⟩ := h; have h3 := List.append_inj h2.2.2 h1.2.1.1; simp_all) | (obtain _ := a; obtain _ := b; simp [en_spec_vFirst] at h; obtain ⟨h1, h2⟩ := h; have h3 := List.append_inj h2.2 h1.1; simp_all)
noncomputable def A_impl_neighboursOn (a : DMap) (b : Int) : Option R := call G 34 [(.agg (cMap a)), (I b)] []
def en_impl_neighboursOn : List Int → R := fun (a : List Int) => (slc cI a, [])
theorem inj_impl_neighboursOn : Inj en_impl_neighboursOn := fun a b h => by
 simpa [en_impl_neighboursOn, Prod.ext_iff, and_assoc] using h
noncomputable def A_spec_vCount (b : DBoard) (c d : Int) (a : List Int) : Option R := call G 134 [(.agg (cBoard b)), (I c), (I d), (slc cI a)] []
def en_spec_vCount : Int → R := fun (a : Int) => (I a, [])
theorem inj_spec_vCount : Inj en_spec_vCount := fun a b h => by
 first | (simpa [en_spec_vCount, Prod.ext_iff, and_assoc] using h) | (obtain _ := a; obtain _ := b; simp [en_spec_vCount] at h ⊢; simp_all; done) | (obtain _ := a; obtain _ := b; simp [en_spec_vCount] at h; obtain ⟨h1, h2⟩ := h; have h3 := List.append_inj h2.2.2 h1.2.1.1; simp_all) | (obtain _ := a; obtain _ := b; simp [en_spec_vCount] at h; obtain ⟨h1, h2⟩ := h; have h3 := List.append_inj h2.2 h1.1; simp_all)
noncomputable def A_impl_increasing (a : List Int) : Option R := call G 76 [(slc cI a)] []
def en_impl_increasing : Bool → R := fun (a : Bool) => (B a, [])
theorem inj_impl_increasing : Inj en_impl_increasing := fun a b h => by
 simpa [en_impl_increasing, Prod.ext_iff, and_assoc] using h
noncomputable def A_impl_stepBy (a : DHex) (b c : Int) : Option R := call G 98 [(.agg (cHex a)), (I b), (I c)] []
def en_impl_stepBy : DHex → R := fun (a : DHex) => (AV.agg (cHex a), [])
theorem inj_impl_stepBy : Inj en_impl_stepBy := fun a b h => by
 simpa [en_impl_stepBy, Prod.ext_iff, and_assoc] using h
noncomputable def A_spec_vBlocks (a : DBoard) (b c d : Int) : Option R := call G 137 [(.agg (cBoard a)), (I b), (I c), (I d)] []
def en_spec_vBlocks : Bool → R := fun (a : Bool) => (B a, [])
theorem inj_spec_vBlocks : Inj en_spec_vBlocks := fun a b h => by
 first | (simpa [en_spec_vBlocks, Prod.ext_iff, and_assoc] using h) | (obtain _ := a; obtain _ := b; simp [en_spec_vBlocks] at h ⊢; simp_all; done) | (obtain _ := a; obtain _ := b; simp [en_spec_vBlocks] at h; obtain ⟨h1, h2⟩ := h; have h3 := List.append_inj h2.2.2 h1.2.1.1; simp_all) | (obtain _ := a; obtain _ := b; simp [en_spec_vBlocks] at h; obtain ⟨h1, h2⟩ := h; have h3 := List.append_inj h2.2 h1.1; simp_all)
noncomputable def A_spec_fgSpots (a : DBoard) (b : DUnit) : Option R := call G 104 [(.agg (cBoard a)), (.agg (cUnit b))] []
def en_spec_fgSpots : List Int → R := fun (a : List Int) => (slc cI a, [])
theorem inj_spec_fgSpots : Inj en_spec_fgSpots := fun a b h => by
 first | (simpa [en_spec_fgSpots, Prod.ext_iff, and_assoc] using h) | (obtain _ := a; obtain _ := b; simp [en_spec_fgSpots] at h ⊢; simp_all; done) | (obtain _ := a; obtain _ := b; simp [en_spec_fgSpots] at h; obtain ⟨h1, h2⟩ := h; have h3 := List.append_inj h2.2.2 h1.2.1.1; simp_all) | (obtain _ := a; obtain _ := b; simp [en_spec_fgSpots] at h; obtain ⟨h1, h2⟩ := h; have h3 := List.append_inj h2.2 h1.1; simp_all)
noncomputable def A_spec_sOwn (a : DState) : Option R := call G 71 [(.agg (cState a))] []
noncomputable def A_impl_enterCost (b : DBoard) (a c : Int) : Option R := call G 55 [(.agg (cBoard b)), (I a), (I c)] []
def en_impl_enterCost : Int → R := fun (a : Int) => (I a, [])
theorem inj_impl_enterCost : Inj en_impl_enterCost := fun a b h => by
 simpa [en_impl_enterCost, Prod.ext_iff, and_assoc] using h
noncomputable def A_sc_of (b : Dl1Cur) (a : List ByteArray) : Option R := call G 108 [(AV.ptr (Id.l 0) none 0), (slc cS a)] [(Id.l 0, bl (cl1Cur b))]
noncomputable def A_spec_l1Most (a b : Int) : Option R := call G 61 [(I a), (I b)] []
def en_spec_l1Most : Int → R := fun (a : Int) => (I a, [])
theorem inj_spec_l1Most : Inj en_spec_l1Most := fun a b h => by
 simpa [en_spec_l1Most, Prod.ext_iff, and_assoc] using h
noncomputable def A_impl_isWeather (a : Int) : Option R := call G 75 [(I a)] []
def en_impl_isWeather : Bool → R := fun (a : Bool) => (B a, [])
theorem inj_impl_isWeather : Inj en_impl_isWeather := fun a b h => by
 first | (simpa [en_impl_isWeather, Prod.ext_iff, and_assoc] using h) | (obtain _ := a; obtain _ := b; simp [en_impl_isWeather] at h ⊢; simp_all; done) | (obtain _ := a; obtain _ := b; simp [en_impl_isWeather] at h; obtain ⟨h1, h2⟩ := h; have h3 := List.append_inj h2.2.2 h1.2.1.1; simp_all) | (obtain _ := a; obtain _ := b; simp [en_impl_isWeather] at h; obtain ⟨h1, h2⟩ := h; have h3 := List.append_inj h2.2 h1.1; simp_all)
noncomputable def A_impl_goodView (a : DBoard) (b : DView) : Option R := call G 41 [(.agg (cBoard a)), (.agg (cView b))] []
def en_impl_goodView : Bool → R := fun (a : Bool) => (B a, [])
theorem inj_impl_goodView : Inj en_impl_goodView := fun a b h => by
 first | (simpa [en_impl_goodView, Prod.ext_iff, and_assoc] using h) | (obtain _ := a; obtain _ := b; simp [en_impl_goodView] at h ⊢; simp_all; done) | (obtain _ := a; obtain _ := b; simp [en_impl_goodView] at h; obtain ⟨h1, h2⟩ := h; have h3 := List.append_inj h2.2.2 h1.2.1.1; simp_all) | (obtain _ := a; obtain _ := b; simp [en_impl_goodView] at h; obtain ⟨h1, h2⟩ := h; have h3 := List.append_inj h2.2 h1.1; simp_all)
noncomputable def A_impl_without (b a : List Int) : Option R := call G 42 [(slc cI b), (slc cI a)] []
def en_impl_without : List Int → R := fun (a : List Int) => (slc cI a, [])
theorem inj_impl_without : Inj en_impl_without := fun a b h => by
 first | (simpa [en_impl_without, Prod.ext_iff, and_assoc] using h) | (obtain _ := a; obtain _ := b; simp [en_impl_without] at h ⊢; simp_all; done) | (obtain _ := a; obtain _ := b; simp [en_impl_without] at h; obtain ⟨h1, h2⟩ := h; have h3 := List.append_inj h2.2.2 h1.2.1.1; simp_all) | (obtain _ := a; obtain _ := b; simp [en_impl_without] at h; obtain ⟨h1, h2⟩ := h; have h3 := List.append_inj h2.2 h1.1; simp_all)
noncomputable def A_impl_newUnits (b a : List DUnit) : Option R := call G 43 [(slc cUnit b), (slc cUnit a)] []
def en_impl_newUnits : List Int → R := fun (a : List Int) => (slc cI a, [])
theorem inj_impl_newUnits : Inj en_impl_newUnits := fun a b h => by
 first | (simpa [en_impl_newUnits, Prod.ext_iff, and_assoc] using h) | (obtain _ := a; obtain _ := b; simp [en_impl_newUnits] at h ⊢; simp_all; done) | (obtain _ := a; obtain _ := b; simp [en_impl_newUnits] at h; obtain ⟨h1, h2⟩ := h; have h3 := List.append_inj h2.2.2 h1.2.1.1; simp_all) | (obtain _ := a; obtain _ := b; simp [en_impl_newUnits] at h; obtain ⟨h1, h2⟩ := h; have h3 := List.append_inj h2.2 h1.1; simp_all)
noncomputable def A_spec_hLine (a b : DHex) : Option R := call G 136 [(.agg (cHex a)), (.agg (cHex b))] []
def en_spec_hLine : List (List DHex) → R := fun (a : List (List DHex)) => (slc cLHex a, [])
theorem inj_spec_hLine : Inj en_spec_hLine := fun a b h => by
 first | (simpa [en_spec_hLine, Prod.ext_iff, and_assoc] using h) | (obtain _ := a; obtain _ := b; simp [en_spec_hLine] at h ⊢; simp_all; done) | (obtain _ := a; obtain _ := b; simp [en_spec_hLine] at h; obtain ⟨h1, h2⟩ := h; have h3 := List.append_inj h2.2.2 h1.2.1.1; simp_all) | (obtain _ := a; obtain _ := b; simp [en_spec_hLine] at h; obtain ⟨h1, h2⟩ := h; have h3 := List.append_inj h2.2 h1.1; simp_all)
noncomputable def A_impl_mayHide (b : DBoard) (c : DView) (a : Int) : Option R := call G 23 [(.agg (cBoard b)), (.agg (cView c)), (I a)] []
def en_impl_mayHide : List Int → R := fun (a : List Int) => (slc cI a, [])
theorem inj_impl_mayHide : Inj en_impl_mayHide := fun a b h => by
 first | (simpa [en_impl_mayHide, Prod.ext_iff, and_assoc] using h) | (obtain _ := a; obtain _ := b; simp [en_impl_mayHide] at h ⊢; simp_all; done) | (obtain _ := a; obtain _ := b; simp [en_impl_mayHide] at h; obtain ⟨h1, h2⟩ := h; have h3 := List.append_inj h2.2.2 h1.2.1.1; simp_all) | (obtain _ := a; obtain _ := b; simp [en_impl_mayHide] at h; obtain ⟨h1, h2⟩ := h; have h3 := List.append_inj h2.2 h1.1; simp_all)
noncomputable def A_spec_vHeight (a : DBoard) (b : Int) : Option R := call G 139 [(.agg (cBoard a)), (I b)] []
def en_spec_vHeight : Int → R := fun (a : Int) => (I a, [])
theorem inj_spec_vHeight : Inj en_spec_vHeight := fun a b h => by
 first | (simpa [en_spec_vHeight, Prod.ext_iff, and_assoc] using h) | (obtain _ := a; obtain _ := b; simp [en_spec_vHeight] at h ⊢; simp_all; done) | (obtain _ := a; obtain _ := b; simp [en_spec_vHeight] at h; obtain ⟨h1, h2⟩ := h; have h3 := List.append_inj h2.2.2 h1.2.1.1; simp_all) | (obtain _ := a; obtain _ := b; simp [en_spec_vHeight] at h; obtain ⟨h1, h2⟩ := h; have h3 := List.append_inj h2.2 h1.1; simp_all)
noncomputable def A_spec_bTerrain (a : DBoard) (b : Int) : Option R := call G 93 [(.agg (cBoard a)), (I b)] []
def en_spec_bTerrain : DTerrain → R := fun (a : DTerrain) => (AV.agg (cTerrain a), [])
theorem inj_spec_bTerrain : Inj en_spec_bTerrain := fun a b h => by
 simpa [en_spec_bTerrain, Prod.ext_iff, and_assoc] using h
noncomputable def A_impl_IsBoard (a : DBoard) : Option R := call G 62 [(.agg (cBoard a))] []
def en_impl_IsBoard : Bool → R := fun (a : Bool) => (B a, [])
theorem inj_impl_IsBoard : Inj en_impl_IsBoard := fun a b h => by
 simpa [en_impl_IsBoard, Prod.ext_iff, and_assoc] using h
noncomputable def A_impl_terrainAt (a : DBoard) (b : Int) : Option R := call G 87 [(.agg (cBoard a)), (I b)] []
def en_impl_terrainAt : DTerrain → R := fun (a : DTerrain) => (AV.agg (cTerrain a), [])
theorem inj_impl_terrainAt : Inj en_impl_terrainAt := fun a b h => by
 simpa [en_impl_terrainAt, Prod.ext_iff, and_assoc] using h
noncomputable def A_spec_rName (a : ByteArray) : Option R := call G 109 [(S a)] []
def en_spec_rName : Bool → R := fun (a : Bool) => (B a, [])
theorem inj_spec_rName : Inj en_spec_rName := fun a b h => by
 simpa [en_spec_rName, Prod.ext_iff, and_assoc] using h
noncomputable def A_spec_rKind (b : List DKind) (a : ByteArray) : Option R := call G 111 [(slc cKind b), (S a)] []
def en_spec_rKind : Int → R := fun (a : Int) => (I a, [])
theorem inj_spec_rKind : Inj en_spec_rKind := fun a b h => by
 simpa [en_spec_rKind, Prod.ext_iff, and_assoc] using h
noncomputable def A_spec_l1Put (a : List Int) (b c d : Nat) (e : Int) : Option R := call G 105 [(.own (Id.l 0) none b c d), (I e)] [(Id.l 0, some (rowB false false 1 cI a))]
def en_spec_l1Put : Nat × List Int → R := fun (a : Nat × List Int) => (AV.own (Id.l 0) none 0 a.fst a.fst, [(Id.l 0, some (rowB false false 1 cI a.snd))])
theorem inj_spec_l1Put : Inj en_spec_l1Put := fun a b h => by
 simpa [en_spec_l1Put, Prod.ext_iff, and_assoc] using h
def en2_spec_l1Put : List Int × List Int → R := fun (a : List Int × List Int) => (AV.own (Id.r 0 0) none 0 a.fst.length a.fst.length, [(Id.l 0, some (rowB false false 1 cI a.snd)), (Id.r 0 0, some (rowB true false 1 cI a.fst))])
theorem inj2_spec_l1Put : Inj en2_spec_l1Put := fun a b h => by
 first | (simpa [en2_spec_l1Put, Prod.ext_iff, and_assoc] using h) | (obtain ⟨_, _⟩ := a; obtain ⟨_, _⟩ := b; simp [en2_spec_l1Put] at h ⊢; simp_all; done) | (obtain ⟨_, _⟩ := a; obtain ⟨_, _⟩ := b; simp [en2_spec_l1Put] at h; obtain ⟨h1, h2⟩ := h; have h3 := List.append_inj h2.2.2 h1.2.1.1; simp_all) | (obtain ⟨_, _⟩ := a; obtain ⟨_, _⟩ := b; simp [en2_spec_l1Put] at h; obtain ⟨h1, h2⟩ := h; have h3 := List.append_inj h2.2 h1.1; simp_all)
noncomputable def cl_spec_l1Put {γ : Type} (ml_0 : List Int) (l0o : Nat) (l0n : Nat) (l0k : Nat) (n1 : Int) (k : Nat × List Int → Option γ) (k' : List Int × List Int → Option γ) : Option γ := cl2 en_spec_l1Put en2_spec_l1Put (call G) 105 [(.own (Id.l 0) none l0o l0n l0k), (I n1)] [(Id.l 0, some (rowB false false 1 cI ml_0))] k k'
theorem k_spec_l1Put {γ : Type} (ml_0 : List Int) (l0o : Nat) (l0n : Nat) (l0k : Nat) (n1 : Int) {v : Nat × List Int} (h : A_spec_l1Put ml_0 l0o l0n l0k n1 = some (en_spec_l1Put v)) (k : Nat × List Int → Option γ) (k' : List Int × List Int → Option γ) : cl_spec_l1Put ml_0 l0o l0n l0k n1 k k' = k v := cl2_a inj_spec_l1Put h k k'
theorem k2_spec_l1Put {γ : Type} (ml_0 : List Int) (l0o : Nat) (l0n : Nat) (l0k : Nat) (n1 : Int) {v : List Int × List Int} (h : A_spec_l1Put ml_0 l0o l0n l0k n1 = some (en2_spec_l1Put v)) (k : Nat × List Int → Option γ) (k' : List Int × List Int → Option γ) : cl_spec_l1Put ml_0 l0o l0n l0k n1 k k' = k' v := cl2_b inj2_spec_l1Put (fun a b e => by simp [en_spec_l1Put, en2_spec_l1Put] at e) h k k'
noncomputable def A_sc_rules (a : Dl1Cur) : Option R := call G 100 [(AV.ptr (Id.l 0) none 0)] [(Id.l 0, bl (cl1Cur a))]
def en_sc_rules : (DRules × List DKind) × Dl1Cur → R := fun (a : (DRules × List DKind) × Dl1Cur) => (AV.agg [AV.own (Id.r 0 0) none 0 a.fst.fst.Terrains.length a.fst.fst.Terrains.length, AV.own (Id.r 0 1) none 0 a.fst.fst.Kinds.length (a.fst.fst.Kinds.length + a.fst.snd.length), I a.fst.fst.Stack, I a.fst.fst.River, I a.fst.fst.Road, I a.fst.fst.Supply, I a.fst.fst.Turns], [(Id.l 0, bl (cl1Cur a.snd)), (Id.r 0 0, some (rowB true true 5 cTerrainN a.fst.fst.Terrains)), (Id.r 0 1, some (rowB true false 6 cKind (a.fst.fst.Kinds ++ a.fst.snd)))])
theorem inj_sc_rules : Inj en_sc_rules := fun a b h => by
 first | (simpa [en_sc_rules, Prod.ext_iff, and_assoc] using h) | (obtain ⟨⟨⟨_, _, _, _, _, _, _⟩, _⟩, _⟩ := a; obtain ⟨⟨⟨_, _, _, _, _, _, _⟩, _⟩, _⟩ := b; simp [en_sc_rules] at h ⊢; simp_all; done) | (obtain ⟨⟨⟨_, _, _, _, _, _, _⟩, _⟩, _⟩ := a; obtain ⟨⟨⟨_, _, _, _, _, _, _⟩, _⟩, _⟩ := b; simp [en_sc_rules] at h; obtain ⟨h1, h2⟩ := h; have h3 := List.append_inj h2.2.2 h1.2.1.1; simp_all) | (obtain ⟨⟨⟨_, _, _, _, _, _, _⟩, _⟩, _⟩ := a; obtain ⟨⟨⟨_, _, _, _, _, _, _⟩, _⟩, _⟩ := b; simp [en_sc_rules] at h; obtain ⟨h1, h2⟩ := h; have h3 := List.append_inj h2.2 h1.1; simp_all)
noncomputable def A_impl_IsRules (a : DRules) : Option R := call G 94 [(.agg (cRules a))] []
def en_impl_IsRules : Bool → R := fun (a : Bool) => (B a, [])
theorem inj_impl_IsRules : Inj en_impl_IsRules := fun a b h => by
 simpa [en_impl_IsRules, Prod.ext_iff, and_assoc] using h
noncomputable def A_sc_anyRules (a : Dl1Cur) : Option R := call G 84 [(AV.ptr (Id.l 0) none 0)] [(Id.l 0, bl (cl1Cur a))]
def en_sc_anyRules : DRules × Dl1Cur → R := fun (a : DRules × Dl1Cur) => (AV.agg (cRules a.fst), [(Id.l 0, bl (cl1Cur a.snd))])
theorem inj_sc_anyRules : Inj en_sc_anyRules := fun a b h => by
 simpa [en_sc_anyRules, Prod.ext_iff, and_assoc] using h
noncomputable def A_impl_IsMap (a : DMap) : Option R := call G 95 [(.agg (cMap a))] []
def en_impl_IsMap : Bool → R := fun (a : Bool) => (B a, [])
theorem inj_impl_IsMap : Inj en_impl_IsMap := fun a b h => by
 simpa [en_impl_IsMap, Prod.ext_iff, and_assoc] using h
noncomputable def A_impl_goodUnit (a : DBoard) (b : DUnit) : Option R := call G 79 [(.agg (cBoard a)), (.agg (cUnit b))] []
def en_impl_goodUnit : Bool → R := fun (a : Bool) => (B a, [])
theorem inj_impl_goodUnit : Inj en_impl_goodUnit := fun a b h => by
 simpa [en_impl_goodUnit, Prod.ext_iff, and_assoc] using h
noncomputable def A_spec_l1Rising (c : List Int) (a b : Int) : Option R := call G 91 [(slc cI c), (I a), (I b)] []
def en_spec_l1Rising : Bool → R := fun (a : Bool) => (B a, [])
theorem inj_spec_l1Rising : Inj en_spec_l1Rising := fun a b h => by
 simpa [en_spec_l1Rising, Prod.ext_iff, and_assoc] using h
noncomputable def A_spec_fgBefore (a b : DUnit) : Option R := call G 73 [(.agg (cUnit a)), (.agg (cUnit b))] []
def en_spec_fgBefore : Bool → R := fun (a : Bool) => (B a, [])
theorem inj_spec_fgBefore : Inj en_spec_fgBefore := fun a b h => by
 first | (simpa [en_spec_fgBefore, Prod.ext_iff, and_assoc] using h) | (obtain _ := a; obtain _ := b; simp [en_spec_fgBefore] at h ⊢; simp_all; done) | (obtain _ := a; obtain _ := b; simp [en_spec_fgBefore] at h; obtain ⟨h1, h2⟩ := h; have h3 := List.append_inj h2.2.2 h1.2.1.1; simp_all) | (obtain _ := a; obtain _ := b; simp [en_spec_fgBefore] at h; obtain ⟨h1, h2⟩ := h; have h3 := List.append_inj h2.2 h1.1; simp_all)
noncomputable def A_spec_yUnits (b : DBoard) (c : List DUnit) (a : Int) : Option R := call G 92 [(.agg (cBoard b)), (slc cUnit c), (I a)] []
def en_spec_yUnits : Bool → R := fun (a : Bool) => (B a, [])
theorem inj_spec_yUnits : Inj en_spec_yUnits := fun a b h => by
 first | (simpa [en_spec_yUnits, Prod.ext_iff, and_assoc] using h) | (obtain _ := a; obtain _ := b; simp [en_spec_yUnits] at h ⊢; simp_all; done) | (obtain _ := a; obtain _ := b; simp [en_spec_yUnits] at h; obtain ⟨h1, h2⟩ := h; have h3 := List.append_inj h2.2.2 h1.2.1.1; simp_all) | (obtain _ := a; obtain _ := b; simp [en_spec_yUnits] at h; obtain ⟨h1, h2⟩ := h; have h3 := List.append_inj h2.2 h1.1; simp_all)
noncomputable def A_sc_anyBoard (a : Dl1Cur) : Option R := call G 51 [(AV.ptr (Id.l 0) none 0)] [(Id.l 0, bl (cl1Cur a))]
noncomputable def A_impl_kindIndex (a : List DKind) (b : ByteArray) : Option R := call G 116 [(slc cKind a), (S b)] []
def en_impl_kindIndex : Int → R := fun (a : Int) => (I a, [])
theorem inj_impl_kindIndex : Inj en_impl_kindIndex := fun a b h => by
 simpa [en_impl_kindIndex, Prod.ext_iff, and_assoc] using h
def en_sc_among : Int × Dl1Cur → R := fun (a : Int × Dl1Cur) => (I a.fst, [(Id.l 0, bl (cl1Cur a.snd))])
theorem inj_sc_among : Inj en_sc_among := fun a b h => by
 simpa [en_sc_among, Prod.ext_iff, and_assoc] using h
def en_sc_of : ByteArray × Dl1Cur → R := fun (a : ByteArray × Dl1Cur) => (S a.fst, [(Id.l 0, bl (cl1Cur a.snd))])
theorem inj_sc_of : Inj en_sc_of := fun a b h => by
 simpa [en_sc_of, Prod.ext_iff, and_assoc] using h
noncomputable def A_sc_close (a : Dl1Cur) : Option R := call G 37 [(AV.ptr (Id.l 0) none 0)] [(Id.l 0, bl (cl1Cur a))]
def en_sc_close : (DBoard × DState) × Dl1Cur → R := fun (a : (DBoard × DState) × Dl1Cur) => (AV.tup [AV.agg (cBoard a.fst.fst), AV.agg (cState a.fst.snd)], [(Id.l 0, bl (cl1Cur a.snd))])
theorem inj_sc_close : Inj en_sc_close := fun a b h => by
 simpa [en_sc_close, Prod.ext_iff, and_assoc] using h
noncomputable def A_sc_moved (b : Dl1Cur) (c : DBoard) (d : DState) (a : Int) : Option R := call G 38 [(AV.ptr (Id.l 0) none 0), (.agg (cBoard c)), (.agg (cState d)), (I a)] [(Id.l 0, bl (cl1Cur b))]
def en_sc_moved : DState × Dl1Cur → R := fun (a : DState × Dl1Cur) => (AV.agg (cState a.fst), [(Id.l 0, bl (cl1Cur a.snd))])
theorem inj_sc_moved : Inj en_sc_moved := fun a b h => by
 simpa [en_sc_moved, Prod.ext_iff, and_assoc] using h
noncomputable def A_spec_fgView (b : DBoard) (c : DState) (a : Int) : Option R := call G 39 [(.agg (cBoard b)), (.agg (cState c)), (I a)] []
def en_spec_fgView : DView → R := fun (a : DView) => (AV.agg [I a.Side, I a.Turn, I a.Weather, AV.own (Id.r 0 0) none 0 a.Seen.length a.Seen.length, AV.own (Id.r 0 1) none 0 a.Own.length a.Own.length, AV.own (Id.r 0 2) none 0 a.Enemies.length a.Enemies.length], [(Id.r 0 0, some (rowB true false 1 cI a.Seen)), (Id.r 0 1, some (rowB true false 4 cUnit a.Own)), (Id.r 0 2, some (rowB true false 4 cUnit a.Enemies))])
theorem inj_spec_fgView : Inj en_spec_fgView := fun a b h => by
 first | (simpa [en_spec_fgView, Prod.ext_iff, and_assoc] using h) | (obtain ⟨_, _, _, _, _, _⟩ := a; obtain ⟨_, _, _, _, _, _⟩ := b; simp [en_spec_fgView] at h ⊢; simp_all; done) | (obtain ⟨_, _, _, _, _, _⟩ := a; obtain ⟨_, _, _, _, _, _⟩ := b; simp [en_spec_fgView] at h; obtain ⟨h1, h2⟩ := h; have h3 := List.append_inj h2.2.2 h1.2.1.1; simp_all) | (obtain ⟨_, _, _, _, _, _⟩ := a; obtain ⟨_, _, _, _, _, _⟩ := b; simp [en_spec_fgView] at h; obtain ⟨h1, h2⟩ := h; have h3 := List.append_inj h2.2 h1.1; simp_all)
noncomputable def A_spec_l1Abs (a : Int) : Option R := call G 135 [(I a)] []
def en_spec_l1Abs : Int → R := fun (a : Int) => (I a, [])
theorem inj_spec_l1Abs : Inj en_spec_l1Abs := fun a b h => by
 first | (simpa [en_spec_l1Abs, Prod.ext_iff, and_assoc] using h) | (obtain _ := a; obtain _ := b; simp [en_spec_l1Abs] at h ⊢; simp_all; done) | (obtain _ := a; obtain _ := b; simp [en_spec_l1Abs] at h; obtain ⟨h1, h2⟩ := h; have h3 := List.append_inj h2.2.2 h1.2.1.1; simp_all) | (obtain _ := a; obtain _ := b; simp [en_spec_l1Abs] at h; obtain ⟨h1, h2⟩ := h; have h3 := List.append_inj h2.2 h1.1; simp_all)
noncomputable def A_sc_board (a : Dl1Cur) : Option R := call G 67 [(AV.ptr (Id.l 0) none 0)] [(Id.l 0, bl (cl1Cur a))]
def en_sc_board : DBoard × Dl1Cur → R := fun (a : DBoard × Dl1Cur) => (AV.agg (cBoard a.fst), [(Id.l 0, bl (cl1Cur a.snd))])
theorem inj_sc_board : Inj en_sc_board := fun a b h => by
 simpa [en_sc_board, Prod.ext_iff, and_assoc] using h
noncomputable def A_sc_anyMap (a : Dl1Cur) : Option R := call G 85 [(AV.ptr (Id.l 0) none 0)] [(Id.l 0, bl (cl1Cur a))]
def en_sc_anyMap : DMap × Dl1Cur → R := fun (a : DMap × Dl1Cur) => (AV.agg (cMap a.fst), [(Id.l 0, bl (cl1Cur a.snd))])
theorem inj_sc_anyMap : Inj en_sc_anyMap := fun a b h => by
 simpa [en_sc_anyMap, Prod.ext_iff, and_assoc] using h
def en_sc_next : Int × Dl1Cur → R := fun (a : Int × Dl1Cur) => (I a.fst, [(Id.l 0, bl (cl1Cur a.snd))])
theorem inj_sc_next : Inj en_sc_next := fun a b h => by
 simpa [en_sc_next, Prod.ext_iff, and_assoc] using h
noncomputable def A_hT_impl_mayHide_1 (b : DView) (c : DBoard) (a : Int) (d : DBoard) : Option R := call G 46 [(.agg (cBoard d)), (.clo 52 [(AV.ptr (Id.l 0) none 0), (AV.ptr (Id.l 1) none 0), (AV.ptr (Id.l 2) none 0)])] [(Id.l 0, bl (cView b)), (Id.l 1, bl (cBoard c)), (Id.l 2, some ⟨false, false, false, 0, [(I a)]⟩)]
def en_hT_impl_mayHide_1 : List Int × DView × DBoard × Int → R := fun (a : List Int × DView × DBoard × Int) => (slc cI a.fst, [(Id.l 0, bl (cView a.snd.fst)), (Id.l 1, bl (cBoard a.snd.snd.fst)), (Id.l 2, bl [I a.snd.snd.snd])])
theorem inj_hT_impl_mayHide_1 : Inj en_hT_impl_mayHide_1 := fun a b h => by
 first | (simpa [en_hT_impl_mayHide_1, Prod.ext_iff, and_assoc] using h) | (obtain ⟨_, ⟨⟨_, _, _, _, _, _⟩, ⟨⟨⟨_, _, _, _, _, _, _⟩, ⟨_, _, _, _, _⟩⟩, _⟩⟩⟩ := a; obtain ⟨_, ⟨⟨_, _, _, _, _, _⟩, ⟨⟨⟨_, _, _, _, _, _, _⟩, ⟨_, _, _, _, _⟩⟩, _⟩⟩⟩ := b; simp [en_hT_impl_mayHide_1] at h ⊢; simp_all; done) | (obtain ⟨_, ⟨⟨_, _, _, _, _, _⟩, ⟨⟨⟨_, _, _, _, _, _, _⟩, ⟨_, _, _, _, _⟩⟩, _⟩⟩⟩ := a; obtain ⟨_, ⟨⟨_, _, _, _, _, _⟩, ⟨⟨⟨_, _, _, _, _, _, _⟩, ⟨_, _, _, _, _⟩⟩, _⟩⟩⟩ := b; simp [en_hT_impl_mayHide_1] at h; obtain ⟨h1, h2⟩ := h; have h3 := List.append_inj h2.2.2 h1.2.1.1; simp_all) | (obtain ⟨_, ⟨⟨_, _, _, _, _, _⟩, ⟨⟨⟨_, _, _, _, _, _, _⟩, ⟨_, _, _, _, _⟩⟩, _⟩⟩⟩ := a; obtain ⟨_, ⟨⟨_, _, _, _, _, _⟩, ⟨⟨⟨_, _, _, _, _, _, _⟩, ⟨_, _, _, _, _⟩⟩, _⟩⟩⟩ := b; simp [en_hT_impl_mayHide_1] at h; obtain ⟨h1, h2⟩ := h; have h3 := List.append_inj h2.2 h1.1; simp_all)
noncomputable def A_slices_IndexFunc_Kind_of_impl_kindIndex_1 (a : ByteArray) (b : List DKind) : Option R := call G 124 [(slc cKind b), (.clo 125 [(AV.ptr (Id.l 0) none 0)])] [(Id.l 0, some ⟨false, false, false, 0, [(S a)]⟩)]
def en_slices_IndexFunc_Kind_of_impl_kindIndex_1 : Int × ByteArray → R := fun (a : Int × ByteArray) => (I a.fst, [(Id.l 0, bl [S a.snd])])
theorem inj_slices_IndexFunc_Kind_of_impl_kindIndex_1 : Inj en_slices_IndexFunc_Kind_of_impl_kindIndex_1 := fun a b h => by
 simpa [en_slices_IndexFunc_Kind_of_impl_kindIndex_1, Prod.ext_iff, and_assoc] using h
noncomputable def A_impl_terrainIndex (a : List DTerrain) (b : ByteArray) : Option R := call G 114 [(slc cTerrain a), (S b)] []
def en_impl_terrainIndex : Int → R := fun (a : Int) => (I a, [])
theorem inj_impl_terrainIndex : Inj en_impl_terrainIndex := fun a b h => by
 simpa [en_impl_terrainIndex, Prod.ext_iff, and_assoc] using h
noncomputable def A_slices_Contains_Unit (a : List DUnit) (b : DUnit) : Option R := call G 82 [(slc cUnit a), (.agg (cUnit b))] []
def en_slices_Contains_Unit : Bool → R := fun (a : Bool) => (B a, [])
theorem inj_slices_Contains_Unit : Inj en_slices_Contains_Unit := fun a b h => by
 first | (simpa [en_slices_Contains_Unit, Prod.ext_iff, and_assoc] using h) | (obtain _ := a; obtain _ := b; simp [en_slices_Contains_Unit] at h ⊢; simp_all; done) | (obtain _ := a; obtain _ := b; simp [en_slices_Contains_Unit] at h; obtain ⟨h1, h2⟩ := h; have h3 := List.append_inj h2.2.2 h1.2.1.1; simp_all) | (obtain _ := a; obtain _ := b; simp [en_slices_Contains_Unit] at h; obtain ⟨h1, h2⟩ := h; have h3 := List.append_inj h2.2 h1.1; simp_all)
noncomputable def A_impl_goodKind (a : DKind) : Option R := call G 115 [(.agg (cKind a))] []
def en_impl_goodKind : Bool → R := fun (a : Bool) => (B a, [])
theorem inj_impl_goodKind : Inj en_impl_goodKind := fun a b h => by
 simpa [en_impl_goodKind, Prod.ext_iff, and_assoc] using h
noncomputable def A_slices_Index_Unit (a : List DUnit) (b : DUnit) : Option R := call G 107 [(slc cUnit a), (.agg (cUnit b))] []
def en_slices_Index_Unit : Int → R := fun (a : Int) => (I a, [])
theorem inj_slices_Index_Unit : Inj en_slices_Index_Unit := fun a b h => by
 first | (simpa [en_slices_Index_Unit, Prod.ext_iff, and_assoc] using h) | (obtain _ := a; obtain _ := b; simp [en_slices_Index_Unit] at h ⊢; simp_all; done) | (obtain _ := a; obtain _ := b; simp [en_slices_Index_Unit] at h; obtain ⟨h1, h2⟩ := h; have h3 := List.append_inj h2.2.2 h1.2.1.1; simp_all) | (obtain _ := a; obtain _ := b; simp [en_slices_Index_Unit] at h; obtain ⟨h1, h2⟩ := h; have h3 := List.append_inj h2.2 h1.1; simp_all)
noncomputable def A_impl_mayHide_1 (b : DView) (c : DBoard) (a d : Int) : Option R := call G 52 [(I d), (AV.ptr (Id.l 0) none 0), (AV.ptr (Id.l 1) none 0), (AV.ptr (Id.l 2) none 0)] [(Id.l 0, bl (cView b)), (Id.l 1, bl (cBoard c)), (Id.l 2, some ⟨false, false, false, 0, [(I a)]⟩)]
def en_impl_mayHide_1 : Bool × DView × DBoard × Int → R := fun (a : Bool × DView × DBoard × Int) => (B a.fst, [(Id.l 0, bl (cView a.snd.fst)), (Id.l 1, bl (cBoard a.snd.snd.fst)), (Id.l 2, bl [I a.snd.snd.snd])])
theorem inj_impl_mayHide_1 : Inj en_impl_mayHide_1 := fun a b h => by
 first | (simpa [en_impl_mayHide_1, Prod.ext_iff, and_assoc] using h) | (obtain ⟨_, ⟨⟨_, _, _, _, _, _⟩, ⟨⟨⟨_, _, _, _, _, _, _⟩, ⟨_, _, _, _, _⟩⟩, _⟩⟩⟩ := a; obtain ⟨_, ⟨⟨_, _, _, _, _, _⟩, ⟨⟨⟨_, _, _, _, _, _, _⟩, ⟨_, _, _, _, _⟩⟩, _⟩⟩⟩ := b; simp [en_impl_mayHide_1] at h ⊢; simp_all; done) | (obtain ⟨_, ⟨⟨_, _, _, _, _, _⟩, ⟨⟨⟨_, _, _, _, _, _, _⟩, ⟨_, _, _, _, _⟩⟩, _⟩⟩⟩ := a; obtain ⟨_, ⟨⟨_, _, _, _, _, _⟩, ⟨⟨⟨_, _, _, _, _, _, _⟩, ⟨_, _, _, _, _⟩⟩, _⟩⟩⟩ := b; simp [en_impl_mayHide_1] at h; obtain ⟨h1, h2⟩ := h; have h3 := List.append_inj h2.2.2 h1.2.1.1; simp_all) | (obtain ⟨_, ⟨⟨_, _, _, _, _, _⟩, ⟨⟨⟨_, _, _, _, _, _, _⟩, ⟨_, _, _, _, _⟩⟩, _⟩⟩⟩ := a; obtain ⟨_, ⟨⟨_, _, _, _, _, _⟩, ⟨⟨⟨_, _, _, _, _, _, _⟩, ⟨_, _, _, _, _⟩⟩, _⟩⟩⟩ := b; simp [en_impl_mayHide_1] at h; obtain ⟨h1, h2⟩ := h; have h3 := List.append_inj h2.2 h1.1; simp_all)
noncomputable def A_impl_kindIndex_1 (a : ByteArray) (b : DKind) : Option R := call G 125 [(.agg (cKind b)), (AV.ptr (Id.l 0) none 0)] [(Id.l 0, some ⟨false, false, false, 0, [(S a)]⟩)]
def en_impl_kindIndex_1 : Bool × ByteArray → R := fun (a : Bool × ByteArray) => (B a.fst, [(Id.l 0, bl [S a.snd])])
theorem inj_impl_kindIndex_1 : Inj en_impl_kindIndex_1 := fun a b h => by
 simpa [en_impl_kindIndex_1, Prod.ext_iff, and_assoc] using h
noncomputable def A_slices_ContainsFunc_Unit_of_impl_mayHide_1_1 (a : Int) (b : List DUnit) : Option R := call G 53 [(slc cUnit b), (.clo 54 [(AV.ptr (Id.l 0) none 0)])] [(Id.l 0, some ⟨false, false, false, 0, [(I a)]⟩)]
def en_slices_ContainsFunc_Unit_of_impl_mayHide_1_1 : Bool × Int → R := fun (a : Bool × Int) => (B a.fst, [(Id.l 0, bl [I a.snd])])
theorem inj_slices_ContainsFunc_Unit_of_impl_mayHide_1_1 : Inj en_slices_ContainsFunc_Unit_of_impl_mayHide_1_1 := fun a b h => by
 first | (simpa [en_slices_ContainsFunc_Unit_of_impl_mayHide_1_1, Prod.ext_iff, and_assoc] using h) | (obtain ⟨_, _⟩ := a; obtain ⟨_, _⟩ := b; simp [en_slices_ContainsFunc_Unit_of_impl_mayHide_1_1] at h ⊢; simp_all; done) | (obtain ⟨_, _⟩ := a; obtain ⟨_, _⟩ := b; simp [en_slices_ContainsFunc_Unit_of_impl_mayHide_1_1] at h; obtain ⟨h1, h2⟩ := h; have h3 := List.append_inj h2.2.2 h1.2.1.1; simp_all) | (obtain ⟨_, _⟩ := a; obtain ⟨_, _⟩ := b; simp [en_slices_ContainsFunc_Unit_of_impl_mayHide_1_1] at h; obtain ⟨h1, h2⟩ := h; have h3 := List.append_inj h2.2 h1.1; simp_all)
noncomputable def A_slices_Contains_int (a : List Int) (b : Int) : Option R := call G 48 [(slc cI a), (I b)] []
def en_slices_Contains_int : Bool → R := fun (a : Bool) => (B a, [])
theorem inj_slices_Contains_int : Inj en_slices_Contains_int := fun a b h => by
 simpa [en_slices_Contains_int, Prod.ext_iff, and_assoc] using h
noncomputable def A_slices_IndexFunc_Unit_of_impl_mayHide_1_1 (a : Int) (b : List DUnit) : Option R := call G 86 [(slc cUnit b), (.clo 54 [(AV.ptr (Id.l 0) none 0)])] [(Id.l 0, some ⟨false, false, false, 0, [(I a)]⟩)]
def en_slices_IndexFunc_Unit_of_impl_mayHide_1_1 : Int × Int → R := fun (a : Int × Int) => (I a.fst, [(Id.l 0, bl [I a.snd])])
theorem inj_slices_IndexFunc_Unit_of_impl_mayHide_1_1 : Inj en_slices_IndexFunc_Unit_of_impl_mayHide_1_1 := fun a b h => by
 first | (simpa [en_slices_IndexFunc_Unit_of_impl_mayHide_1_1, Prod.ext_iff, and_assoc] using h) | (obtain ⟨_, _⟩ := a; obtain ⟨_, _⟩ := b; simp [en_slices_IndexFunc_Unit_of_impl_mayHide_1_1] at h ⊢; simp_all; done) | (obtain ⟨_, _⟩ := a; obtain ⟨_, _⟩ := b; simp [en_slices_IndexFunc_Unit_of_impl_mayHide_1_1] at h; obtain ⟨h1, h2⟩ := h; have h3 := List.append_inj h2.2.2 h1.2.1.1; simp_all) | (obtain ⟨_, _⟩ := a; obtain ⟨_, _⟩ := b; simp [en_slices_IndexFunc_Unit_of_impl_mayHide_1_1] at h; obtain ⟨h1, h2⟩ := h; have h3 := List.append_inj h2.2 h1.1; simp_all)
noncomputable def A_slices_Index_int (a : List Int) (b : Int) : Option R := call G 83 [(slc cI a), (I b)] []
def en_slices_Index_int : Int → R := fun (a : Int) => (I a, [])
theorem inj_slices_Index_int : Inj en_slices_Index_int := fun a b h => by
 simpa [en_slices_Index_int, Prod.ext_iff, and_assoc] using h
noncomputable def A_impl_mayHide_1_1 (a : Int) (b : DUnit) : Option R := call G 54 [(.agg (cUnit b)), (AV.ptr (Id.l 0) none 0)] [(Id.l 0, some ⟨false, false, false, 0, [(I a)]⟩)]
def en_impl_mayHide_1_1 : Bool × Int → R := fun (a : Bool × Int) => (B a.fst, [(Id.l 0, bl [I a.snd])])
theorem inj_impl_mayHide_1_1 : Inj en_impl_mayHide_1_1 := fun a b h => by
 first | (simpa [en_impl_mayHide_1_1, Prod.ext_iff, and_assoc] using h) | (obtain ⟨_, _⟩ := a; obtain ⟨_, _⟩ := b; simp [en_impl_mayHide_1_1] at h ⊢; simp_all; done) | (obtain ⟨_, _⟩ := a; obtain ⟨_, _⟩ := b; simp [en_impl_mayHide_1_1] at h; obtain ⟨h1, h2⟩ := h; have h3 := List.append_inj h2.2.2 h1.2.1.1; simp_all) | (obtain ⟨_, _⟩ := a; obtain ⟨_, _⟩ := b; simp [en_impl_mayHide_1_1] at h; obtain ⟨h1, h2⟩ := h; have h3 := List.append_inj h2.2 h1.1; simp_all)
noncomputable def A_impl_compareUnits (a b : DUnit) : Option R := call G 81 [(.agg (cUnit a)), (.agg (cUnit b))] []
def en_impl_compareUnits : Int → R := fun (a : Int) => (I a, [])
theorem inj_impl_compareUnits : Inj en_impl_compareUnits := fun a b h => by
 first | (simpa [en_impl_compareUnits, Prod.ext_iff, and_assoc] using h) | (obtain _ := a; obtain _ := b; simp [en_impl_compareUnits] at h ⊢; simp_all; done) | (obtain _ := a; obtain _ := b; simp [en_impl_compareUnits] at h; obtain ⟨h1, h2⟩ := h; have h3 := List.append_inj h2.2.2 h1.2.1.1; simp_all) | (obtain _ := a; obtain _ := b; simp [en_impl_compareUnits] at h; obtain ⟨h1, h2⟩ := h; have h3 := List.append_inj h2.2 h1.1; simp_all)
noncomputable def A_impl_hexOf (a : DMap) (b : Int) : Option R := call G 99 [(.agg (cMap a)), (I b)] []
def en_impl_hexOf : DHex → R := fun (a : DHex) => (AV.agg (cHex a), [])
theorem inj_impl_hexOf : Inj en_impl_hexOf := fun a b h => by
 simpa [en_impl_hexOf, Prod.ext_iff, and_assoc] using h
noncomputable def A_cf_impl_goodView_1 (a : DBoard) (b : List Int) : Option R := call G 77 [(slc cI b), (.clo 78 [(AV.ptr (Id.l 0) none 0)])] [(Id.l 0, bl (cBoard a))]
def en_cf_impl_goodView_1 : Bool × DBoard → R := fun (a : Bool × DBoard) => (B a.fst, [(Id.l 0, bl (cBoard a.snd))])
theorem inj_cf_impl_goodView_1 : Inj en_cf_impl_goodView_1 := fun a b h => by
 first | (simpa [en_cf_impl_goodView_1, Prod.ext_iff, and_assoc] using h) | (obtain ⟨_, ⟨⟨_, _, _, _, _, _, _⟩, ⟨_, _, _, _, _⟩⟩⟩ := a; obtain ⟨_, ⟨⟨_, _, _, _, _, _, _⟩, ⟨_, _, _, _, _⟩⟩⟩ := b; simp [en_cf_impl_goodView_1] at h ⊢; simp_all; done) | (obtain ⟨_, ⟨⟨_, _, _, _, _, _, _⟩, ⟨_, _, _, _, _⟩⟩⟩ := a; obtain ⟨_, ⟨⟨_, _, _, _, _, _, _⟩, ⟨_, _, _, _, _⟩⟩⟩ := b; simp [en_cf_impl_goodView_1] at h; obtain ⟨h1, h2⟩ := h; have h3 := List.append_inj h2.2.2 h1.2.1.1; simp_all) | (obtain ⟨_, ⟨⟨_, _, _, _, _, _, _⟩, ⟨_, _, _, _, _⟩⟩⟩ := a; obtain ⟨_, ⟨⟨_, _, _, _, _, _, _⟩, ⟨_, _, _, _, _⟩⟩⟩ := b; simp [en_cf_impl_goodView_1] at h; obtain ⟨h1, h2⟩ := h; have h3 := List.append_inj h2.2 h1.1; simp_all)
def en_spec_fgSeen : List Int → R := fun (a : List Int) => (AV.own (Id.r 0 0) none 0 a.length a.length, [(Id.r 0 0, some (rowB true false 1 cI a))])
theorem inj_spec_fgSeen : Inj en_spec_fgSeen := fun a b h => by
 first | (simpa [en_spec_fgSeen, Prod.ext_iff, and_assoc] using h) | (obtain _ := a; obtain _ := b; simp [en_spec_fgSeen] at h ⊢; simp_all; done) | (obtain _ := a; obtain _ := b; simp [en_spec_fgSeen] at h; obtain ⟨h1, h2⟩ := h; have h3 := List.append_inj h2.2.2 h1.2.1.1; simp_all) | (obtain _ := a; obtain _ := b; simp [en_spec_fgSeen] at h; obtain ⟨h1, h2⟩ := h; have h3 := List.append_inj h2.2 h1.1; simp_all)
def en_sc_anyBoard : DBoard × Dl1Cur → R := fun (a : DBoard × Dl1Cur) => (AV.agg (cBoard a.fst), [(Id.l 0, bl (cl1Cur a.snd))])
theorem inj_sc_anyBoard : Inj en_sc_anyBoard := fun a b h => by
 simpa [en_sc_anyBoard, Prod.ext_iff, and_assoc] using h
def en_sc_state : DState × Dl1Cur → R := fun (a : DState × Dl1Cur) => (AV.agg [I a.fst.Turn, I a.fst.Weather, AV.own (Id.r 0 0) none 0 a.fst.Units.length a.fst.Units.length], [(Id.l 0, bl (cl1Cur a.snd)), (Id.r 0 0, some (rowB true false 4 cUnit a.fst.Units))])
theorem inj_sc_state : Inj en_sc_state := fun a b h => by
 first | (simpa [en_sc_state, Prod.ext_iff, and_assoc] using h) | (obtain ⟨⟨_, _, _⟩, _⟩ := a; obtain ⟨⟨_, _, _⟩, _⟩ := b; simp [en_sc_state] at h ⊢; simp_all; done) | (obtain ⟨⟨_, _, _⟩, _⟩ := a; obtain ⟨⟨_, _, _⟩, _⟩ := b; simp [en_sc_state] at h; obtain ⟨h1, h2⟩ := h; have h3 := List.append_inj h2.2.2 h1.2.1.1; simp_all) | (obtain ⟨⟨_, _, _⟩, _⟩ := a; obtain ⟨⟨_, _, _⟩, _⟩ := b; simp [en_sc_state] at h; obtain ⟨h1, h2⟩ := h; have h3 := List.append_inj h2.2 h1.1; simp_all)
def en_sc_mapOf : DMap × Dl1Cur → R := fun (a : DMap × Dl1Cur) => (AV.agg [I a.fst.Width, I a.fst.Height, AV.own (Id.r 0 0) none 0 a.fst.Terrain.length a.fst.Terrain.length, AV.own (Id.r 0 1) none 0 a.fst.Rivers.length a.fst.Rivers.length, AV.own (Id.r 0 2) none 0 a.fst.Roads.length a.fst.Roads.length], [(Id.l 0, bl (cl1Cur a.snd)), (Id.r 0 0, some (rowB true false 1 cI a.fst.Terrain)), (Id.r 0 1, some (rowB true false 1 cI a.fst.Rivers)), (Id.r 0 2, some (rowB true false 1 cI a.fst.Roads))])
theorem inj_sc_mapOf : Inj en_sc_mapOf := fun a b h => by
 first | (simpa [en_sc_mapOf, Prod.ext_iff, and_assoc] using h) | (obtain ⟨⟨_, _, _, _, _⟩, _⟩ := a; obtain ⟨⟨_, _, _, _, _⟩, _⟩ := b; simp [en_sc_mapOf] at h ⊢; simp_all; done) | (obtain ⟨⟨_, _, _, _, _⟩, _⟩ := a; obtain ⟨⟨_, _, _, _, _⟩, _⟩ := b; simp [en_sc_mapOf] at h; obtain ⟨h1, h2⟩ := h; have h3 := List.append_inj h2.2.2 h1.2.1.1; simp_all) | (obtain ⟨⟨_, _, _, _, _⟩, _⟩ := a; obtain ⟨⟨_, _, _, _, _⟩, _⟩ := b; simp [en_sc_mapOf] at h; obtain ⟨h1, h2⟩ := h; have h3 := List.append_inj h2.2 h1.1; simp_all)
noncomputable def A_cf_impl_IsBoard_1 (a : DBoard) (b : List Int) : Option R := call G 77 [(slc cI b), (.clo 96 [(AV.ptr (Id.l 0) none 0)])] [(Id.l 0, bl (cBoard a))]
def en_cf_impl_IsBoard_1 : Bool × DBoard → R := fun (a : Bool × DBoard) => (B a.fst, [(Id.l 0, bl (cBoard a.snd))])
theorem inj_cf_impl_IsBoard_1 : Inj en_cf_impl_IsBoard_1 := fun a b h => by
 simpa [en_cf_impl_IsBoard_1, Prod.ext_iff, and_assoc] using h
noncomputable def A_slices_IndexFunc_Terrain_of_impl_terrainIndex_1 (a : ByteArray) (b : List DTerrain) : Option R := call G 122 [(slc cTerrain b), (.clo 123 [(AV.ptr (Id.l 0) none 0)])] [(Id.l 0, some ⟨false, false, false, 0, [(S a)]⟩)]
def en_slices_IndexFunc_Terrain_of_impl_terrainIndex_1 : Int × ByteArray → R := fun (a : Int × ByteArray) => (I a.fst, [(Id.l 0, bl [S a.snd])])
theorem inj_slices_IndexFunc_Terrain_of_impl_terrainIndex_1 : Inj en_slices_IndexFunc_Terrain_of_impl_terrainIndex_1 := fun a b h => by
 simpa [en_slices_IndexFunc_Terrain_of_impl_terrainIndex_1, Prod.ext_iff, and_assoc] using h
noncomputable def A_xf_impl_goodView_1 (a : DBoard) (b : List Int) : Option R := call G 106 [(slc cI b), (.clo 78 [(AV.ptr (Id.l 0) none 0)])] [(Id.l 0, bl (cBoard a))]
def en_xf_impl_goodView_1 : Int × DBoard → R := fun (a : Int × DBoard) => (I a.fst, [(Id.l 0, bl (cBoard a.snd))])
theorem inj_xf_impl_goodView_1 : Inj en_xf_impl_goodView_1 := fun a b h => by
 first | (simpa [en_xf_impl_goodView_1, Prod.ext_iff, and_assoc] using h) | (obtain ⟨_, ⟨⟨_, _, _, _, _, _, _⟩, ⟨_, _, _, _, _⟩⟩⟩ := a; obtain ⟨_, ⟨⟨_, _, _, _, _, _, _⟩, ⟨_, _, _, _, _⟩⟩⟩ := b; simp [en_xf_impl_goodView_1] at h ⊢; simp_all; done) | (obtain ⟨_, ⟨⟨_, _, _, _, _, _, _⟩, ⟨_, _, _, _, _⟩⟩⟩ := a; obtain ⟨_, ⟨⟨_, _, _, _, _, _, _⟩, ⟨_, _, _, _, _⟩⟩⟩ := b; simp [en_xf_impl_goodView_1] at h; obtain ⟨h1, h2⟩ := h; have h3 := List.append_inj h2.2.2 h1.2.1.1; simp_all) | (obtain ⟨_, ⟨⟨_, _, _, _, _, _, _⟩, ⟨_, _, _, _, _⟩⟩⟩ := a; obtain ⟨_, ⟨⟨_, _, _, _, _, _, _⟩, ⟨_, _, _, _, _⟩⟩⟩ := b; simp [en_xf_impl_goodView_1] at h; obtain ⟨h1, h2⟩ := h; have h3 := List.append_inj h2.2 h1.1; simp_all)
def en_spec_sOwn : DState → R := fun (a : DState) => (AV.agg [I a.Turn, I a.Weather, AV.own (Id.r 0 0) none 0 a.Units.length a.Units.length], [(Id.r 0 0, some (rowB true false 4 cUnit a.Units))])
theorem inj_spec_sOwn : Inj en_spec_sOwn := fun a b h => by
 first | (simpa [en_spec_sOwn, Prod.ext_iff, and_assoc] using h) | (obtain ⟨_, _, _⟩ := a; obtain ⟨_, _, _⟩ := b; simp [en_spec_sOwn] at h ⊢; simp_all; done) | (obtain ⟨_, _, _⟩ := a; obtain ⟨_, _, _⟩ := b; simp [en_spec_sOwn] at h; obtain ⟨h1, h2⟩ := h; have h3 := List.append_inj h2.2.2 h1.2.1.1; simp_all) | (obtain ⟨_, _, _⟩ := a; obtain ⟨_, _, _⟩ := b; simp [en_spec_sOwn] at h; obtain ⟨h1, h2⟩ := h; have h3 := List.append_inj h2.2 h1.1; simp_all)
noncomputable def A_xf_impl_IsBoard_1 (a : DBoard) (b : List Int) : Option R := call G 106 [(slc cI b), (.clo 96 [(AV.ptr (Id.l 0) none 0)])] [(Id.l 0, bl (cBoard a))]
def en_xf_impl_IsBoard_1 : Int × DBoard → R := fun (a : Int × DBoard) => (I a.fst, [(Id.l 0, bl (cBoard a.snd))])
theorem inj_xf_impl_IsBoard_1 : Inj en_xf_impl_IsBoard_1 := fun a b h => by
 simpa [en_xf_impl_IsBoard_1, Prod.ext_iff, and_assoc] using h
noncomputable def A_slices_IsSortedFunc_Unit_of_impl_compareUnits (a : List DUnit) : Option R := call G 80 [(slc cUnit a), (.clo 81 [])] []
def en_slices_IsSortedFunc_Unit_of_impl_compareUnits : Bool → R := fun (a : Bool) => (B a, [])
theorem inj_slices_IsSortedFunc_Unit_of_impl_compareUnits : Inj en_slices_IsSortedFunc_Unit_of_impl_compareUnits := fun a b h => by
 first | (simpa [en_slices_IsSortedFunc_Unit_of_impl_compareUnits, Prod.ext_iff, and_assoc] using h) | (obtain _ := a; obtain _ := b; simp [en_slices_IsSortedFunc_Unit_of_impl_compareUnits] at h ⊢; simp_all; done) | (obtain _ := a; obtain _ := b; simp [en_slices_IsSortedFunc_Unit_of_impl_compareUnits] at h; obtain ⟨h1, h2⟩ := h; have h3 := List.append_inj h2.2.2 h1.2.1.1; simp_all) | (obtain _ := a; obtain _ := b; simp [en_slices_IsSortedFunc_Unit_of_impl_compareUnits] at h; obtain ⟨h1, h2⟩ := h; have h3 := List.append_inj h2.2 h1.1; simp_all)
noncomputable def A_impl_terrainIndex_1 (a : ByteArray) (b : DTerrain) : Option R := call G 123 [(.agg (cTerrain b)), (AV.ptr (Id.l 0) none 0)] [(Id.l 0, some ⟨false, false, false, 0, [(S a)]⟩)]
def en_impl_terrainIndex_1 : Bool × ByteArray → R := fun (a : Bool × ByteArray) => (B a.fst, [(Id.l 0, bl [S a.snd])])
theorem inj_impl_terrainIndex_1 : Inj en_impl_terrainIndex_1 := fun a b h => by
 simpa [en_impl_terrainIndex_1, Prod.ext_iff, and_assoc] using h
noncomputable def A_impl_goodView_1 (a : DBoard) (b : Int) : Option R := call G 78 [(I b), (AV.ptr (Id.l 0) none 0)] [(Id.l 0, bl (cBoard a))]
def en_impl_goodView_1 : Bool × DBoard → R := fun (a : Bool × DBoard) => (B a.fst, [(Id.l 0, bl (cBoard a.snd))])
theorem inj_impl_goodView_1 : Inj en_impl_goodView_1 := fun a b h => by
 first | (simpa [en_impl_goodView_1, Prod.ext_iff, and_assoc] using h) | (obtain ⟨_, ⟨⟨_, _, _, _, _, _, _⟩, ⟨_, _, _, _, _⟩⟩⟩ := a; obtain ⟨_, ⟨⟨_, _, _, _, _, _, _⟩, ⟨_, _, _, _, _⟩⟩⟩ := b; simp [en_impl_goodView_1] at h ⊢; simp_all; done) | (obtain ⟨_, ⟨⟨_, _, _, _, _, _, _⟩, ⟨_, _, _, _, _⟩⟩⟩ := a; obtain ⟨_, ⟨⟨_, _, _, _, _, _, _⟩, ⟨_, _, _, _, _⟩⟩⟩ := b; simp [en_impl_goodView_1] at h; obtain ⟨h1, h2⟩ := h; have h3 := List.append_inj h2.2.2 h1.2.1.1; simp_all) | (obtain ⟨_, ⟨⟨_, _, _, _, _, _, _⟩, ⟨_, _, _, _, _⟩⟩⟩ := a; obtain ⟨_, ⟨⟨_, _, _, _, _, _, _⟩, ⟨_, _, _, _, _⟩⟩⟩ := b; simp [en_impl_goodView_1] at h; obtain ⟨h1, h2⟩ := h; have h3 := List.append_inj h2.2 h1.1; simp_all)
noncomputable def A_impl_IsBoard_1 (a : DBoard) (b : Int) : Option R := call G 96 [(I b), (AV.ptr (Id.l 0) none 0)] [(Id.l 0, bl (cBoard a))]
def en_impl_IsBoard_1 : Bool × DBoard → R := fun (a : Bool × DBoard) => (B a.fst, [(Id.l 0, bl (cBoard a.snd))])
theorem inj_impl_IsBoard_1 : Inj en_impl_IsBoard_1 := fun a b h => by
 simpa [en_impl_IsBoard_1, Prod.ext_iff, and_assoc] using h
noncomputable def A_impl_UnseenHexes_1 (a : DView) (b : Int) : Option R := call G 47 [(I b), (AV.ptr (Id.l 0) none 0)] [(Id.l 0, bl (cView a))]
def en_impl_UnseenHexes_1 : Bool × DView → R := fun (a : Bool × DView) => (B a.fst, [(Id.l 0, bl (cView a.snd))])
theorem inj_impl_UnseenHexes_1 : Inj en_impl_UnseenHexes_1 := fun a b h => by
 first | (simpa [en_impl_UnseenHexes_1, Prod.ext_iff, and_assoc] using h) | (obtain ⟨_, ⟨_, _, _, _, _, _⟩⟩ := a; obtain ⟨_, ⟨_, _, _, _, _, _⟩⟩ := b; simp [en_impl_UnseenHexes_1] at h ⊢; simp_all; done) | (obtain ⟨_, ⟨_, _, _, _, _, _⟩⟩ := a; obtain ⟨_, ⟨_, _, _, _, _, _⟩⟩ := b; simp [en_impl_UnseenHexes_1] at h; obtain ⟨h1, h2⟩ := h; have h3 := List.append_inj h2.2.2 h1.2.1.1; simp_all) | (obtain ⟨_, ⟨_, _, _, _, _, _⟩⟩ := a; obtain ⟨_, ⟨_, _, _, _, _, _⟩⟩ := b; simp [en_impl_UnseenHexes_1] at h; obtain ⟨h1, h2⟩ := h; have h3 := List.append_inj h2.2 h1.1; simp_all)
end Go.Ev
