/-
 P1: one of the texts behind a proof of laws.FnAdvances: how each function that is reached is called; what its result is
 Its conditions: none of its own.
-/
import Derived.Test.YtollnbaidgncgaaGreatDoorEd
set_option maxRecDepth 100000
set_option linter.unusedVariables false
set_option linter.unusedSectionVars false
set_option linter.unusedSimpArgs false
set_option linter.unnecessarySimpa false
namespace Go.Ev
open Go Go.Proofs
variable [Inhabited Known]
noncomputable def L_laws_FnAdvances_L12 (c a : DState) (d : KSl) (k b : Int) (f e : Bool) (g : Int) (h : List Int) (i j : Int) : Option R := lpK G T 3 Tryz.f3 [1, 1, 1, 1, 1, 1, 0, 1, 0, 1, 1, 0, 1, 0] (js 1 ((Kn d) :: js 4 ((AV.ptr (Id.h 6 0) none 0) :: js 1 ((I k) :: js 3 ((AV.ptr (Id.h 12 0) none 0) :: (I b) :: js 1 ((B f) :: (B e) :: (I g) :: js 72 ((slc cI h) :: (I i) :: (I j) :: js 140 []))))))) [(Id.h 6 0, some ⟨false, true, false, 0, cState c⟩), (Id.h 12 0, some ⟨false, true, false, 0, cState a⟩)]
noncomputable def L_spec_gBack_L8 (d : Int) (a : List Int) (b c : Int) : Option R := lpK G T 46 Tryz.f46 [1, 1, 1, 1, 1, 0, 1, 0] (js 2 ((I d) :: js 54 ((slc cI a) :: (I b) :: (I c) :: js 7 []))) []
noncomputable def L_impl_controls_L4 (a : DBoard) (b : DUnit) (d c : Int) : Option R := lpK G T 111 Tryz.f111 [1, 1, 0, 1, 0] (js 2 ((I d) :: (AV.ptr (Id.h 3 0) none 0) :: (AV.ptr (Id.h 4 0) none 0) :: js 25 ((I c) :: js 20 []))) [(Id.h 3 0, some ⟨false, true, false, 0, cBoard a⟩), (Id.h 4 0, some ⟨false, true, false, 0, cUnit b⟩)]
noncomputable def L_laws_pSameState_L4 (a b : DState) (c d : Int) : Option R := lpK G T 8 Tryz.f8 [1, 1, 0, 1, 0] (js 2 ((AV.ptr (Id.h 2 0) none 0) :: (AV.ptr (Id.h 3 0) none 0) :: js 25 ((I c) :: (I d) :: js 14 []))) [(Id.h 2 0, some ⟨false, true, false, 0, cState a⟩), (Id.h 3 0, some ⟨false, true, false, 0, cState b⟩)]
noncomputable def L_spec_sAt_L3 (a : List Int) (f b : Int) (c : List DUnit) (d e : Int) : Option R := lpK G T 83 Tryz.f83 [1, 1, 0, 1, 0] (js 1 ((I f) :: (I b) :: js 4 ((.own (Id.h 7 0) none 0 a.length a.length) :: js 3 ((slc cUnit c) :: (I d) :: (I e) :: js 20 [])))) [(Id.h 7 0, some (rowB true false 1 cI a))]
noncomputable def L_impl_inZone_L2 (a : DBoard) (b f : Int) (c : List DUnit) (d e : Int) : Option R := lpK G T 78 Tryz.f78 [1, 0, 1, 0] (js 2 ((I b) :: (I f) :: (AV.ptr (Id.h 4 0) none 0) :: js 7 ((slc cUnit c) :: (I d) :: (I e) :: js 14 []))) [(Id.h 4 0, some ⟨false, true, false, 0, cBoard a⟩)]
noncomputable def L_impl_isName_L2 (a : ByteArray) (b : Int) : Option R := lpK G T 121 Tryz.f121 [1, 0, 1, 0] ((S a) :: js 2 ((I b) :: js 19 [])) []
noncomputable def L_impl_ownerOf_L2 (b : Int) (c : List DUnit) (d a : Int) : Option R := lpK G T 102 Tryz.f102 [1, 0, 1, 0] (js 1 ((I b) :: js 6 ((slc cUnit c) :: (I d) :: (I a) :: js 10 []))) []
noncomputable def L_impl_increasing_L2 (a : List Int) (b : Int) : Option R := lpK G T 52 Tryz.f52 [1, 0, 1, 0] ((slc cI a) :: js 2 ((I b) :: js 16 [])) []
noncomputable def L_spec_l1All_L2 (a b : Int) (e : List Int) (c d : Int) : Option R := lpK G T 120 Tryz.f120 [1, 0, 1, 0] (js 1 ((I a) :: (I b) :: js 6 ((slc cI e) :: (I c) :: (I d) :: js 9 []))) []
noncomputable def L_sc_close_L6 (a : List Int) (y : List DUnit) (z : Dl1Cur) (e f g h i j k l m : Int) (n : List DTerrain) (o : List DKind) (p q r s t u v w x : Int) (b c d : Nat) (k6 : Int) : Option R := lpK G T 47 Tryz.f47 [1, 1, 1, 1, 0, 1, 0] ((AV.ptr (Id.l 0) none 0) :: js 1 ((AV.ptr (Id.h 2 0) none 0) :: (AV.ptr (Id.h 3 0) none 0) :: (AV.ptr (Id.h 4 0) none 0) :: (AV.ptr (Id.h 5 0) none 0) :: (I k6) :: js 57 [])) [(Id.l 0, bl (cl1Cur z)), (Id.h 2 0, some ⟨false, true, false, 0, [.emp, .emp, (I e), (I f), (I g), (I h), (I i), (I j), (I k), .emp, .emp, .emp]⟩), (Id.h 3 0, some ⟨false, true, false, 0, [(I l), (I m), .emp]⟩), (Id.h 4 0, some ⟨false, true, false, 0, [(slc cTerrain n), (slc cKind o), (I p), (I q), (I r), (I s), (I t), (I u), (I v), (.own (Id.h 4 1) none 0 a.length a.length), .emp, .emp]⟩), (Id.h 4 1, some (rowB true false 1 cI a)), (Id.h 5 0, some ⟨false, true, false, 0, [(I w), (I x), (.own (Id.h 5 1) none b c d)]⟩), (Id.h 5 1, some (rowB true false 4 cUnit y))]
noncomputable def L_sc_close_L6_1 (o : List DUnit) (q : Dl1Cur) (d e f g h i j k l : Int) (p : DBoard) (m n : Int) (a b c : Nat) (r : Int) : Option R := lpK G T 47 Tryz.f47 [1, 1, 1, 1, 0, 1, 0] ((AV.ptr (Id.l 0) none 0) :: js 1 ((AV.ptr (Id.h 2 0) none 0) :: (AV.ptr (Id.h 3 0) none 0) :: (AV.ptr (Id.h 4 0) none 0) :: (AV.ptr (Id.h 5 0) none 0) :: (I r) :: js 57 [])) [(Id.l 0, bl (cl1Cur q)), (Id.h 2 0, some ⟨false, true, false, 0, [.emp, .emp, (I d), (I e), (I f), (I g), (I h), (I i), (I j), .emp, .emp, .emp]⟩), (Id.h 3 0, some ⟨false, true, false, 0, [(I k), (I l), .emp]⟩), (Id.h 4 0, some ⟨false, true, false, 0, cBoard p⟩), (Id.h 5 0, some ⟨false, true, false, 0, [(I m), (I n), (.own (Id.h 5 1) none a b c)]⟩), (Id.h 5 1, some (rowB true false 4 cUnit o))]
noncomputable def L_impl_advanceUnits_L3 (h : List DUnit) (i : DBoard) (f g d e : Int) (a b c : Nat) (n j : Int) (k : List Int) (l m : Int) : Option R := lpK G T 26 Tryz.f26 [1, 1, 0, 1, 0] (js 3 ((I n) :: (AV.ptr (Id.h 4 0) none 0) :: js 3 ((AV.ptr (Id.h 8 0) none 0) :: js 1 ((AV.ptr (Id.h 10 0) none 0) :: (I j) :: js 4 ((slc cI k) :: (I l) :: (I m) :: js 23 []))))) [(Id.h 4 0, some ⟨false, true, false, 0, cBoard i⟩), (Id.h 8 0, some ⟨false, true, false, 0, [(I f), (I g), .emp]⟩), (Id.h 10 0, some ⟨false, true, false, 0, [(I d), (I e), (.own (Id.h 10 1) none a b c)]⟩), (Id.h 10 1, some (rowB true false 4 cUnit h))]
noncomputable def L_impl_retreatsFrom_L7 (a : List (List Int)) (c : DBoard) (d : DState) (b : DHex) (h f i : Int) (e : List Int) (g : Int) : Option R := lpK G T 74 Tryz.f74 [1, 1, 1, 0, 1, 0] (js 2 ((I h) :: (I f) :: (I i) :: (slc cI e) :: (.own (Id.h 6 0) none 0 a.length a.length) :: (AV.ptr (Id.h 7 0) none 0) :: (AV.ptr (Id.h 8 0) none 0) :: js 6 ((AV.ptr (Id.h 15 0) none 0) :: js 30 ((I g) :: js 43 [])))) [(Id.h 7 0, some ⟨false, true, false, 0, cBoard c⟩), (Id.h 8 0, some ⟨false, true, false, 0, cState d⟩), (Id.h 15 0, some ⟨false, true, false, 0, cHex b⟩), (Id.h 6 0, some (rowB true false 1 cLI a))]
noncomputable def L_slices_IndexFunc_Kind_of_impl_kindIndex_1_L2 (a : ByteArray) (b : List DKind) (c d : Int) : Option R := lpK G T 125 Tryz.f125 [1, 0, 1, 0] ((slc cKind b) :: (.clo 126 [(AV.ptr (Id.l 0) none 0)]) :: js 5 ((I c) :: (I d) :: js 10 [])) [(Id.l 0, some ⟨false, false, false, 0, [(S a)]⟩)]
noncomputable def L_impl_retreatsFrom_L7_1 (a : List (List Int)) (c : DBoard) (d : DState) (b : DHex) (h f i : Int) (e : List Int) (g : Int) : Option R := lpK G T 74 Tryz.f74 [1, 1, 1, 0, 1, 0] (js 2 ((I h) :: (I f) :: (I i) :: (slc cI e) :: (.own (Id.h 6 0) none 0 a.length a.length) :: (AV.ptr (Id.h 7 0) none 0) :: (AV.ptr (Id.h 8 0) none 0) :: js 6 ((AV.ptr (Id.h 15 0) none 0) :: js 30 ((I g) :: js 43 [])))) [(Id.h 6 0, some (rowB true false 1 cLI a)), (Id.h 7 0, some ⟨false, true, false, 0, cBoard c⟩), (Id.h 8 0, some ⟨false, true, false, 0, cState d⟩), (Id.h 15 0, some ⟨false, true, false, 0, cHex b⟩)]
noncomputable def L_impl_retreatsFrom_L7_2 (a : List (List Int)) (c : DBoard) (d : DState) (b : DHex) (h f i : Int) (e : List Int) (g : Int) : Option R := lpK G T 74 Tryz.f74 [1, 1, 1, 0, 1, 0] (js 2 ((I h) :: (I f) :: (I i) :: (slc cI e) :: (.own (Id.l 0) none 0 a.length a.length) :: (AV.ptr (Id.h 7 0) none 0) :: (AV.ptr (Id.h 8 0) none 0) :: js 6 ((AV.ptr (Id.h 15 0) none 0) :: js 30 ((I g) :: js 43 [])))) [(Id.l 0, some (rowB false false 1 cLI a)), (Id.h 7 0, some ⟨false, true, false, 0, cBoard c⟩), (Id.h 8 0, some ⟨false, true, false, 0, cState d⟩), (Id.h 15 0, some ⟨false, true, false, 0, cHex b⟩)]
noncomputable def L_impl_retreatsFrom_L7_3 (a : List (List Int)) (c : DBoard) (d : DState) (b : DHex) (h f i : Int) (e : List Int) (g : Int) : Option R := lpK G T 74 Tryz.f74 [1, 1, 1, 0, 1, 0] (js 2 ((I h) :: (I f) :: (I i) :: (slc cI e) :: (.own (Id.h 6 0) none 0 a.length a.length) :: (AV.ptr (Id.h 7 0) none 0) :: (AV.ptr (Id.h 8 0) none 0) :: js 6 ((AV.ptr (Id.h 15 0) none 0) :: js 30 ((I g) :: js 43 [])))) [(Id.l 0, none), (Id.h 6 0, some (rowB false false 1 cLI a)), (Id.h 7 0, some ⟨false, true, false, 0, cBoard c⟩), (Id.h 8 0, some ⟨false, true, false, 0, cState d⟩), (Id.h 15 0, some ⟨false, true, false, 0, cHex b⟩)]
noncomputable def L_spec_rGood_L4 (a : DRules) (b : List DTerrain) (c d : Int) : Option R := lpK G T 118 Tryz.f118 [1, 1, 0, 1, 0] (js 1 ((AV.ptr (Id.h 1 0) none 0) :: js 18 ((slc cTerrain b) :: (I c) :: (I d) :: js 114 []))) [(Id.h 1 0, some ⟨false, true, false, 0, cRules a⟩)]
noncomputable def L_impl_canFallBack_L6 (a : DBoard) (b : DState) (c : DUnit) (i e : Int) (d : Bool) (f : List Int) (g h : Int) : Option R := lpK G T 44 Tryz.f44 [1, 1, 1, 1, 0, 1, 0] (js 2 ((I i) :: (I e) :: (AV.ptr (Id.h 4 0) none 0) :: (AV.ptr (Id.h 5 0) none 0) :: js 3 ((AV.ptr (Id.h 9 0) none 0) :: (B d) :: js 19 ((slc cI f) :: (I g) :: (I h) :: js 30 [])))) [(Id.h 4 0, some ⟨false, true, false, 0, cBoard a⟩), (Id.h 5 0, some ⟨false, true, false, 0, cState b⟩), (Id.h 9 0, some ⟨false, true, false, 0, cUnit c⟩)]
noncomputable def L_spec_gCan_L3 (a : DBoard) (b : DState) (c : DUnit) (e d : Int) : Option R := lpK G T 39 Tryz.f39 [1, 1, 0, 1, 0] (js 3 ((I e) :: (AV.ptr (Id.h 4 0) none 0) :: (AV.ptr (Id.h 5 0) none 0) :: js 3 ((AV.ptr (Id.h 9 0) none 0) :: (I d) :: js 35 []))) [(Id.h 4 0, some ⟨false, true, false, 0, cBoard a⟩), (Id.h 5 0, some ⟨false, true, false, 0, cState b⟩), (Id.h 9 0, some ⟨false, true, false, 0, cUnit c⟩)]
noncomputable def L_sc_crew_L3 (a : List Int) (c : Dl1Cur) (b : DState) (f : List DUnit) (d e : Int) : Option R := lpK G T 21 Tryz.f21 [1, 1, 0, 1, 0] ((AV.ptr (Id.l 0) none 0) :: js 2 ((AV.ptr (Id.h 3 0) none 0) :: js 1 ((.own (Id.h 5 0) none 0 a.length a.length) :: js 3 ((slc cUnit f) :: (I d) :: (I e) :: js 25 [])))) [(Id.l 0, bl (cl1Cur c)), (Id.h 3 0, some ⟨false, true, false, 0, cState b⟩), (Id.h 5 0, some (rowB true false 1 cI a))]
noncomputable def L_spec_gUnits_L4 (a : DState) (b : List Int) (c d : Int) : Option R := lpK G T 27 Tryz.f27 [1, 1, 0, 1, 0] (js 4 ((AV.ptr (Id.h 4 0) none 0) :: js 17 ((slc cI b) :: (I c) :: (I d) :: js 11 []))) [(Id.h 4 0, some ⟨false, true, false, 0, cState a⟩)]
noncomputable def L_spec_zSources_L3 (a : List Int) (b : DBoard) (c : DState) (d h : Int) (e : List DUnit) (f g : Int) : Option R := lpK G T 113 Tryz.f113 [1, 1, 0, 1, 0] (js 2 ((I d) :: (I h) :: (AV.ptr (Id.h 4 0) none 0) :: (AV.ptr (Id.h 5 0) none 0) :: js 3 ((.own (Id.h 9 0) none 0 a.length a.length) :: js 3 ((slc cUnit e) :: (I f) :: (I g) :: js 21 [])))) [(Id.h 4 0, some ⟨false, true, false, 0, cBoard b⟩), (Id.h 5 0, some ⟨false, true, false, 0, cState c⟩), (Id.h 9 0, some (rowB true false 1 cI a))]
noncomputable def L_spec_l1Rising_L2 (e : List Int) (a b : Int) (f : List Int) (c d : Int) : Option R := lpK G T 58 Tryz.f58 [1, 0, 1, 0] ((slc cI e) :: (I a) :: (I b) :: js 6 ((slc cI f) :: (I c) :: (I d) :: js 23 [])) []
noncomputable def L_impl_unitsAt_L3 (a : List Int) (e : Int) (b : List DUnit) (c d : Int) : Option R := lpK G T 77 Tryz.f77 [1, 1, 0, 1, 0] (js 1 ((I e) :: js 3 ((.own (Id.h 5 0) none 0 a.length a.length) :: js 4 ((slc cUnit b) :: (I c) :: (I d) :: js 14 [])))) [(Id.h 5 0, some (rowB true false 1 cI a))]
noncomputable def L_spec_rGood_L10 (a : DRules) (b : List DKind) (c d : Int) : Option R := lpK G T 118 Tryz.f118 [1, 1, 1, 0, 1, 0] (js 1 ((AV.ptr (Id.h 1 0) none 0) :: js 67 ((slc cKind b) :: (I c) :: (I d) :: js 65 []))) [(Id.h 1 0, some ⟨false, true, false, 0, cRules a⟩)]
noncomputable def L_impl_goodState_L5 (d : List A2I) (e : DBoard) (a b c : Nat) (f : List DUnit) (g h : Int) : Option R := lpK G T 32 Tryz.f32 [1, 1, 1, 0, 1, 0] (js 2 ((AV.ptr (Id.h 2 0) none 0) :: js 2 ((.own (Id.h 5 0) none a b c) :: js 25 ((slc cUnit f) :: (I g) :: (I h) :: js 46 [])))) [(Id.h 2 0, some ⟨false, true, false, 0, cBoard e⟩), (Id.h 5 0, some (rowB true false 2 cA2I d))]
noncomputable def L_sc_state_L3 (h : List DUnit) (j : Dl1Cur) (i : DBoard) (d e f g : Int) (a b c : Nat) (k : Int) : Option R := lpK G T 86 Tryz.f86 [1, 1, 0, 1, 0] ((AV.ptr (Id.l 0) none 0) :: js 2 ((AV.ptr (Id.h 3 0) none 0) :: (AV.ptr (Id.h 4 0) none 0) :: (AV.ptr (Id.h 5 0) none 0) :: (I k) :: js 66 [])) [(Id.l 0, bl (cl1Cur j)), (Id.h 3 0, some ⟨false, true, false, 0, cBoard i⟩), (Id.h 4 0, some ⟨false, true, false, 0, [(I d), (I e), .emp]⟩), (Id.h 5 0, some ⟨false, true, false, 0, [(I f), (I g), (.own (Id.h 5 1) none a b c)]⟩), (Id.h 5 1, some (rowB true false 4 cUnit h))]
noncomputable def L_xf_impl_IsBoard_1_L2 (a : DBoard) (b : List Int) (c d : Int) : Option R := lpK G T 89 Tryz.f89 [1, 0, 1, 0] ((slc cI b) :: (.clo 62 [(AV.ptr (Id.l 0) none 0)]) :: js 5 ((I c) :: (I d) :: js 10 [])) [(Id.l 0, bl (cBoard a))]
noncomputable def L_slices_Index_int_L2 (a : List Int) (b c d : Int) : Option R := lpK G T 127 Tryz.f127 [1, 0, 1, 0] ((slc cI a) :: (I b) :: js 5 ((I c) :: (I d) :: js 10 [])) []
noncomputable def L_spec_sGood_L4 (a : DBoard) (b : DState) (c : List DUnit) (d e : Int) : Option R := lpK G T 57 Tryz.f57 [1, 1, 0, 1, 0] (js 2 ((AV.ptr (Id.h 2 0) none 0) :: (AV.ptr (Id.h 3 0) none 0) :: js 30 ((slc cUnit c) :: (I d) :: (I e) :: js 43 []))) [(Id.h 2 0, some ⟨false, true, false, 0, cBoard a⟩), (Id.h 3 0, some ⟨false, true, false, 0, cState b⟩)]
noncomputable def L_sc_beaten_L4 (l : Dl1Cur) (a b c d e f g h i : Int) (j : DBoard) (k : DState) (m n : Int) : Option R := lpK G T 20 Tryz.f20 [1, 1, 1, 0, 1, 0] ((AV.ptr (Id.l 0) none 0) :: js 1 ((AV.ptr (Id.h 2 0) none 0) :: (AV.ptr (Id.h 3 0) none 0) :: js 1 ((AV.ptr (Id.h 5 0) none 0) :: (AV.ptr (Id.h 6 0) none 0) :: (I m) :: (I n) :: js 52 []))) [(Id.l 0, bl (cl1Cur l)), (Id.h 2 0, some ⟨false, true, false, 0, [.emp, .emp, (I a), (I b), (I c), (I d), (I e), (I f), (I g), .emp, .emp, .emp]⟩), (Id.h 3 0, some ⟨false, true, false, 0, [(I h), (I i), .emp]⟩), (Id.h 5 0, some ⟨false, true, false, 0, cBoard j⟩), (Id.h 6 0, some ⟨false, true, false, 0, cState k⟩)]
noncomputable def L_impl_RetreatSteps_L5 (a : List Int) (b : DBoard) (c : DState) (e d : Int) : Option R := lpK G T 17 Tryz.f17 [1, 1, 1, 0, 1, 0] (js 2 ((I e) :: (AV.ptr (Id.h 3 0) none 0) :: (AV.ptr (Id.h 4 0) none 0) :: js 3 ((.own (Id.h 8 0) none 0 a.length a.length) :: js 7 ((I d) :: js 22 [])))) [(Id.h 3 0, some ⟨false, true, false, 0, cBoard b⟩), (Id.h 4 0, some ⟨false, true, false, 0, cState c⟩), (Id.h 8 0, some (rowB true false 1 cI a))]
noncomputable def L_spec_RetreatSteps_L5 (a : List Int) (b : DBoard) (c : DState) (d e : Int) : Option R := lpK G T 18 Tryz.f18 [1, 1, 1, 0, 1, 0] (js 2 ((I d) :: (AV.ptr (Id.h 3 0) none 0) :: (AV.ptr (Id.h 4 0) none 0) :: js 3 ((.own (Id.h 8 0) none 0 a.length a.length) :: (I e) :: js 25 []))) [(Id.h 3 0, some ⟨false, true, false, 0, cBoard b⟩), (Id.h 4 0, some ⟨false, true, false, 0, cState c⟩), (Id.h 8 0, some (rowB true false 1 cI a))]
noncomputable def L_spec_mEdges_L2 (a : DMap) (b c : List Int) (d e : Int) : Option R := lpK G T 139 Tryz.f139 [1, 0, 1, 0] (js 1 ((slc cI b) :: (AV.ptr (Id.h 2 0) none 0) :: js 4 ((slc cI c) :: (I d) :: (I e) :: js 26 []))) [(Id.h 2 0, some ⟨false, true, false, 0, cMap a⟩)]
noncomputable def L_spec_rName_L2 (a : ByteArray) (b : Int) : Option R := lpK G T 136 Tryz.f136 [1, 0, 1, 0] ((S a) :: js 2 ((I b) :: js 19 [])) []
noncomputable def L_spec_rKind_L2 (a : ByteArray) (b : List DKind) (c d : Int) : Option R := lpK G T 138 Tryz.f138 [1, 0, 1, 0] (js 1 ((S a) :: js 5 ((slc cKind b) :: (I c) :: (I d) :: js 10 []))) []
noncomputable def L_impl_directionOn_L2 (a : DMap) (b c d : Int) : Option R := lpK G T 69 Tryz.f69 [1, 0, 1, 0] (js 1 ((I b) :: (I c) :: (AV.ptr (Id.h 3 0) none 0) :: js 4 ((I d) :: js 10 []))) [(Id.h 3 0, some ⟨false, true, false, 0, cMap a⟩)]
noncomputable def L_sc_rules_L5 (a : List DTerrain) (p : List DKind) (b : List ByteArray) (q : Dl1Cur) (f g h i j : Int) (c d e : Nat) (k l m n o r : Int) : Option R := lpK G T 114 Tryz.f114 [1, 1, 1, 1, 0, 1, 0] ((AV.ptr (Id.l 0) none 0) :: js 1 ((AV.ptr (Id.h 2 0) none 0) :: js 1 ((AV.ptr (Id.h 4 0) none 0) :: (.own (Id.h 5 0) none 0 b.length b.length) :: (I r) :: js 108 []))) [(Id.l 0, bl (cl1Cur q)), (Id.h 2 0, some ⟨false, true, false, 0, [.emp, .emp, (I f), (I g), (I h), (I i), (I j)]⟩), (Id.h 4 0, some ⟨false, true, false, 0, [(.own (Id.h 4 1) none 0 a.length a.length), (.own (Id.h 4 2) none c d e), (I k), (I l), (I m), (I n), (I o)]⟩), (Id.h 4 1, some (rowB true true 5 cTerrainN a)), (Id.h 4 2, some (rowB true false 6 cKind p)), (Id.h 5 0, some (rowB true false 1 cS b))]
noncomputable def L_spec_sGood_L10 (a : DBoard) (b : DState) (c : List DUnit) (d e : Int) : Option R := lpK G T 57 Tryz.f57 [1, 1, 1, 0, 1, 0] (js 2 ((AV.ptr (Id.h 2 0) none 0) :: (AV.ptr (Id.h 3 0) none 0) :: js 42 ((slc cUnit c) :: (I d) :: (I e) :: js 31 []))) [(Id.h 2 0, some ⟨false, true, false, 0, cBoard a⟩), (Id.h 3 0, some ⟨false, true, false, 0, cState b⟩)]
noncomputable def L_spec_gAdvance_L4 (i : List DUnit) (j : DBoard) (d e : Int) (a b c : Nat) (f g n h : Int) (k : List Int) (l m : Int) : Option R := lpK G T 30 Tryz.f30 [1, 1, 1, 0, 1, 0] (js 3 ((I n) :: (AV.ptr (Id.h 4 0) none 0) :: (AV.ptr (Id.h 5 0) none 0) :: js 2 ((AV.ptr (Id.h 8 0) none 0) :: js 1 ((I h) :: js 4 ((slc cI k) :: (I l) :: (I m) :: js 28 []))))) [(Id.h 4 0, some ⟨false, true, false, 0, cBoard j⟩), (Id.h 5 0, some ⟨false, true, false, 0, [(I d), (I e), (.own (Id.h 5 1) none a b c)]⟩), (Id.h 5 1, some (rowB true false 4 cUnit i)), (Id.h 8 0, some ⟨false, true, false, 0, [(I f), (I g), .emp]⟩)]
noncomputable def L_sc_edges_L3 (a : List Int) (c : Dl1Cur) (b : DMap) (d e f : Nat) (g : Int) : Option R := lpK G T 134 Tryz.f134 [1, 1, 0, 1, 0] ((AV.ptr (Id.l 0) none 0) :: js 2 ((AV.ptr (Id.h 3 0) none 0) :: js 1 ((.own (Id.h 5 0) none d e f) :: (I g) :: js 26 []))) [(Id.l 0, bl (cl1Cur c)), (Id.h 3 0, some ⟨false, true, false, 0, cMap b⟩), (Id.h 5 0, some (rowB true false 1 cI a))]
noncomputable def L_slices_IndexFunc_Terrain_of_impl_terrainIndex_1_L2 (a : ByteArray) (b : List DTerrain) (c d : Int) : Option R := lpK G T 123 Tryz.f123 [1, 0, 1, 0] ((slc cTerrain b) :: (.clo 124 [(AV.ptr (Id.l 0) none 0)]) :: js 5 ((I c) :: (I d) :: js 10 [])) [(Id.l 0, some ⟨false, false, false, 0, [(S a)]⟩)]
noncomputable def L_sc_rules_L10 (a : List DTerrain) (u : List DKind) (b : List ByteArray) (c : List Int) (v : Dl1Cur) (g h i j k : Int) (d e f : Nat) (l m n o p : Int) (q : ByteArray) (r s : Int) (t : Bool) (y w x : Int) : Option R := lpK G T 114 Tryz.f114 [1, 1, 1, 1, 0, 1, 0, 0, 1, 0, 0, 1, 1, 0, 1, 0] ((AV.ptr (Id.l 0) none 0) :: js 1 ((AV.ptr (Id.h 2 0) none 0) :: js 1 ((AV.ptr (Id.h 4 0) none 0) :: (.own (Id.h 5 0) none 0 b.length b.length) :: (I y) :: (AV.ptr (Id.h 7 0) none 0) :: js 86 ((I w) :: (I x) :: js 19 [])))) [(Id.l 0, bl (cl1Cur v)), (Id.h 2 0, some ⟨false, true, false, 0, [.emp, .emp, (I g), (I h), (I i), (I j), (I k)]⟩), (Id.h 4 0, some ⟨false, true, false, 0, [(.own (Id.h 4 1) none 0 a.length a.length), (.own (Id.h 4 2) none d e f), (I l), (I m), (I n), (I o), (I p)]⟩), (Id.h 4 1, some (rowB true true 5 cTerrainN a)), (Id.h 4 2, some (rowB true false 6 cKind u)), (Id.h 5 0, some (rowB true false 1 cS b)), (Id.h 7 0, some ⟨false, true, false, 0, [(S q), (.own (Id.h 7 1) none 0 c.length c.length), (I r), (I s), (B t)]⟩), (Id.h 7 1, some (rowB true false 1 cI c))]
noncomputable def L_spec_l1Put_L2 (a : List Int) (b c d : Nat) (e f : Int) : Option R := lpK G T 140 Tryz.f140 [1, 1, 0, 0] ((.own (Id.l 0) none b c d) :: (I e) :: js 3 ((I f) :: js 42 [])) [(Id.l 0, some (rowB false false 1 cI a))]
noncomputable def L_xf_impl_goodTerrain_1_L2 (a : List Int) (b c : Int) : Option R := lpK G T 89 Tryz.f89 [1, 0, 1, 0] ((slc cI a) :: (.clo 122 []) :: js 5 ((I b) :: (I c) :: js 10 [])) []
noncomputable def L_xf_impl_areOnMap_1_L2 (a : DBoard) (b : DState) (c : List Int) (d e : Int) : Option R := lpK G T 89 Tryz.f89 [1, 0, 1, 0] ((slc cI c) :: (.clo 54 [(AV.ptr (Id.l 0) none 0), (AV.ptr (Id.l 1) none 0)]) :: js 5 ((I d) :: (I e) :: js 10 [])) [(Id.l 0, bl (cBoard a)), (Id.l 1, bl (cState b))]
noncomputable def L_sc_anyState_L17 (a : List DUnit) (f : Dl1Cur) (b c d e : Int) : Option R := lpK G T 88 Tryz.f88 [1, 1, 1, 1, 0, 1, 0, 1, 1, 1, 1, 1, 1, 1, 1, 1, 1, 1, 0, 0] ((AV.ptr (Id.l 0) none 0) :: js 3 ((AV.ptr (Id.h 4 0) none 0) :: (AV.ptr (Id.h 5 0) none 0) :: js 85 [])) [(Id.l 0, bl (cl1Cur f)), (Id.h 4 0, some ⟨false, true, false, 0, [(I b), (I c), .emp]⟩), (Id.h 5 0, some ⟨false, true, false, 0, [(I d), (I e), (.own (Id.h 5 1) none 0 a.length a.length)]⟩), (Id.h 5 1, some (rowB true false 4 cUnit a))]
noncomputable def L_impl_IsRules_L4 (a : DRules) (b : List DTerrain) (c d : Int) : Option R := lpK G T 60 Tryz.f60 [1, 1, 0, 1, 0] (js 1 ((AV.ptr (Id.h 1 0) none 0) :: js 18 ((slc cTerrain b) :: (I c) :: (I d) :: js 64 []))) [(Id.h 1 0, some ⟨false, true, false, 0, cRules a⟩)]
noncomputable def L_spec_gPaths_L8 (a : List (List Int)) (c : DBoard) (d : DState) (b : DUnit) (h i e : Int) (f : List Int) (g : Int) : Option R := lpK G T 75 Tryz.f75 [1, 1, 1, 1, 0, 1, 0] (js 2 ((I h) :: (I i) :: (I e) :: (slc cI f) :: (AV.ptr (Id.h 6 0) none 0) :: (AV.ptr (Id.h 7 0) none 0) :: js 5 ((AV.ptr (Id.h 13 0) none 0) :: (.own (Id.h 14 0) none 0 a.length a.length) :: (I g) :: js 68 []))) [(Id.h 6 0, some ⟨false, true, false, 0, cBoard c⟩), (Id.h 7 0, some ⟨false, true, false, 0, cState d⟩), (Id.h 13 0, some ⟨false, true, false, 0, cUnit b⟩), (Id.h 14 0, some (rowB true false 1 cLI a))]
noncomputable def L_impl_IsMap_L4 (a : DMap) (b : List Int) (c d : Int) : Option R := lpK G T 61 Tryz.f61 [1, 1, 0, 1, 0] (js 1 ((AV.ptr (Id.h 1 0) none 0) :: js 29 ((slc cI b) :: (I c) :: (I d) :: js 32 []))) [(Id.h 1 0, some ⟨false, true, false, 0, cMap a⟩)]
noncomputable def L_spec_zExerts_L5 (a : DBoard) (b : DUnit) (d c : Int) : Option R := lpK G T 133 Tryz.f133 [1, 1, 1, 0, 1, 0] (js 3 ((I d) :: (AV.ptr (Id.h 4 0) none 0) :: js 4 ((AV.ptr (Id.h 9 0) none 0) :: (I c) :: js 54 []))) [(Id.h 4 0, some ⟨false, true, false, 0, cBoard a⟩), (Id.h 9 0, some ⟨false, true, false, 0, cUnit b⟩)]
noncomputable def L_sc_mapOf_L3 (a : List Int) (g : Dl1Cur) (c d e f b h : Int) : Option R := lpK G T 115 Tryz.f115 [1, 1, 0, 1, 0] ((AV.ptr (Id.l 0) none 0) :: (I b) :: js 2 ((AV.ptr (Id.h 4 0) none 0) :: (AV.ptr (Id.h 5 0) none 0) :: (I h) :: js 34 [])) [(Id.l 0, bl (cl1Cur g)), (Id.h 4 0, some ⟨false, true, false, 0, [(I c), (I d), .emp, .emp, .emp]⟩), (Id.h 5 0, some ⟨false, true, false, 0, [(I e), (I f), (.own (Id.h 5 1) none 0 a.length a.length), .emp, .emp]⟩), (Id.h 5 1, some (rowB true false 1 cI a))]
noncomputable def L_laws_sameInts_L4 (c d : List Int) (a b : Int) : Option R := lpK G T 19 Tryz.f19 [1, 1, 0, 1, 0] ((slc cI c) :: (slc cI d) :: js 10 ((I a) :: (I b) :: js 12 [])) []
noncomputable def L_spec_rTerrain_L2 (a : ByteArray) (b : List DTerrain) (c d : Int) : Option R := lpK G T 137 Tryz.f137 [1, 0, 1, 0] (js 1 ((S a) :: js 5 ((slc cTerrain b) :: (I c) :: (I d) :: js 10 []))) []
noncomputable def L_spec_l1Has_L2 (a : Int) (b : List Int) (c d : Int) : Option R := lpK G T 128 Tryz.f128 [1, 0, 1, 0] (js 1 ((I a) :: js 5 ((slc cI b) :: (I c) :: (I d) :: js 7 []))) []
noncomputable def L_impl_IsRules_L10 (a : DRules) (b : List DKind) (c d : Int) : Option R := lpK G T 60 Tryz.f60 [1, 1, 1, 0, 1, 0] (js 1 ((AV.ptr (Id.h 1 0) none 0) :: js 42 ((slc cKind b) :: (I c) :: (I d) :: js 40 []))) [(Id.h 1 0, some ⟨false, true, false, 0, cRules a⟩)]
noncomputable def L_impl_IsMap_L10 (a : List (List Int)) (b : DMap) (c d : Int) : Option R := lpK G T 61 Tryz.f61 [1, 1, 1, 0, 1, 0] (js 1 ((AV.ptr (Id.h 1 0) none 0) :: js 43 ((.own (Id.h 45 0) none 0 a.length a.length) :: (I c) :: (I d) :: js 18 []))) [(Id.h 1 0, some ⟨false, true, false, 0, cMap b⟩), (Id.h 45 0, some (rowB true false 1 cLI a))]
noncomputable def L_spec_fDo_L3 (h : List DUnit) (d e f g : Int) (a b c : Nat) (i : List DAttempt) (j k : Int) : Option R := lpK G T 59 Tryz.f59 [1, 1, 0, 1, 0] (js 4 ((AV.ptr (Id.h 4 0) none 0) :: (AV.ptr (Id.h 5 0) none 0) :: js 11 ((slc cAttempt i) :: (I j) :: (I k) :: js 13 []))) [(Id.h 4 0, some ⟨false, true, false, 0, [(I d), (I e), .emp]⟩), (Id.h 5 0, some ⟨false, true, false, 0, [(I f), (I g), (.own (Id.h 5 1) none a b c)]⟩), (Id.h 5 1, some (rowB true false 4 cUnit h))]
noncomputable def L_impl_IsMap_L15 (a : List (List Int)) (b : DMap) (c d : Int) (e : List Int) (f g : Int) : Option R := lpK G T 61 Tryz.f61 [1, 1, 1, 0, 1, 0, 0, 1, 1, 0, 0, 1, 1, 1, 0] (js 1 ((AV.ptr (Id.h 1 0) none 0) :: js 43 ((.own (Id.h 45 0) none 0 a.length a.length) :: (I c) :: (I d) :: js 6 ((slc cI e) :: (I f) :: (I g) :: js 9 [])))) [(Id.h 1 0, some ⟨false, true, false, 0, cMap b⟩), (Id.h 45 0, some (rowB true false 1 cLI a))]
noncomputable def A_laws_FnAdvances (a b : KSl) : Option R := call G 3 [(Kn a), (Kn b)] []
noncomputable def A_sc_close (a : Dl1Cur) : Option R := call G 47 [(AV.ptr (Id.l 0) none 0)] [(Id.l 0, bl (cl1Cur a))]
noncomputable def A_spec_gBack (a : DBoard) (b : DState) (c d e : Int) : Option R := call G 46 [(.agg (cBoard a)), (.agg (cState b)), (I c), (I d), (I e)] []
def en_spec_gBack : Bool → R := fun (a : Bool) => (B a, [])
theorem inj_spec_gBack : Inj en_spec_gBack := fun a b h => by
 first | (simpa [en_spec_gBack, Prod.ext_iff, and_assoc] using h) | (obtain _ := a; obtain _ := b; simp [en_spec_gBack] at h ⊢; simp_all; done) | (obtain _ := a; obtain _ := b; simp [en_spec_gBack] at h; obtain ⟨h1, h2⟩ := h; have h3 := List.append_inj h2.2.2 h1.2.1.1; simp_all) | (obtain _ := a; obtain _ := b; simp [en_spec_gBack] at h; obtain ⟨h1, h2⟩ := h; have h3 := List.append_inj h2.2 h1.1; simp_all)
noncomputable def A_spec_sUnit (a : DBoard) (b : DUnit) : Option R := call G 92 [(.agg (cBoard a)), (.agg (cUnit b))] []
def en_spec_sUnit : Bool → R := fun (a : Bool) => (B a, [])
theorem inj_spec_sUnit : Inj en_spec_sUnit := fun a b h => by
 simpa [en_spec_sUnit, Prod.ext_iff, and_assoc] using h
noncomputable def A_impl_controls (a : DBoard) (b : DUnit) (c : Int) : Option R := call G 111 [(.agg (cBoard a)), (.agg (cUnit b)), (I c)] []
def en_impl_controls : Bool → R := fun (a : Bool) => (B a, [])
theorem inj_impl_controls : Inj en_impl_controls := fun a b h => by
 simpa [en_impl_controls, Prod.ext_iff, and_assoc] using h
noncomputable def A_laws_pSameState (a b : DState) : Option R := call G 8 [(.agg (cState a)), (.agg (cState b))] []
def en_laws_pSameState : Bool → R := fun (a : Bool) => (B a, [])
theorem inj_laws_pSameState : Inj en_laws_pSameState := fun a b h => by
 first | (simpa [en_laws_pSameState, Prod.ext_iff, and_assoc] using h) | (obtain _ := a; obtain _ := b; simp [en_laws_pSameState] at h ⊢; simp_all; done) | (obtain _ := a; obtain _ := b; simp [en_laws_pSameState] at h; obtain ⟨h1, h2⟩ := h; have h3 := List.append_inj h2.2.2 h1.2.1.1; simp_all) | (obtain _ := a; obtain _ := b; simp [en_laws_pSameState] at h; obtain ⟨h1, h2⟩ := h; have h3 := List.append_inj h2.2 h1.1; simp_all)
noncomputable def A_impl_advanceUnits (b : DBoard) (c : DState) (a : List Int) (d : Int) : Option R := call G 26 [(.agg (cBoard b)), (.agg (cState c)), (slc cI a), (I d)] []
def en_impl_advanceUnits : DState × Int → R := fun (a : DState × Int) => (AV.tup [AV.agg (cState a.fst), I a.snd], [])
theorem inj_impl_advanceUnits : Inj en_impl_advanceUnits := fun a b h => by
 first | (simpa [en_impl_advanceUnits, Prod.ext_iff, and_assoc] using h) | (obtain ⟨⟨_, _, _⟩, _⟩ := a; obtain ⟨⟨_, _, _⟩, _⟩ := b; simp [en_impl_advanceUnits] at h ⊢; simp_all; done) | (obtain ⟨⟨_, _, _⟩, _⟩ := a; obtain ⟨⟨_, _, _⟩, _⟩ := b; simp [en_impl_advanceUnits] at h; obtain ⟨h1, h2⟩ := h; have h3 := List.append_inj h2.2.2 h1.2.1.1; simp_all) | (obtain ⟨⟨_, _, _⟩, _⟩ := a; obtain ⟨⟨_, _, _⟩, _⟩ := b; simp [en_impl_advanceUnits] at h; obtain ⟨h1, h2⟩ := h; have h3 := List.append_inj h2.2 h1.1; simp_all)
noncomputable def A_impl_AdvanceUnits (b : DBoard) (c : DState) (a : List Int) (d : Int) : Option R := call G 6 [(.agg (cBoard b)), (.agg (cState c)), (slc cI a), (I d)] []
def en_impl_AdvanceUnits : DState × Int × Bool → R := fun (a : DState × Int × Bool) => (AV.tup [AV.agg (cState a.fst), I a.snd.fst, B a.snd.snd], [])
theorem inj_impl_AdvanceUnits : Inj en_impl_AdvanceUnits := fun a b h => by
 first | (simpa [en_impl_AdvanceUnits, Prod.ext_iff, and_assoc] using h) | (obtain ⟨⟨_, _, _⟩, ⟨_, _⟩⟩ := a; obtain ⟨⟨_, _, _⟩, ⟨_, _⟩⟩ := b; simp [en_impl_AdvanceUnits] at h ⊢; simp_all; done) | (obtain ⟨⟨_, _, _⟩, ⟨_, _⟩⟩ := a; obtain ⟨⟨_, _, _⟩, ⟨_, _⟩⟩ := b; simp [en_impl_AdvanceUnits] at h; obtain ⟨h1, h2⟩ := h; have h3 := List.append_inj h2.2.2 h1.2.1.1; simp_all) | (obtain ⟨⟨_, _, _⟩, ⟨_, _⟩⟩ := a; obtain ⟨⟨_, _, _⟩, ⟨_, _⟩⟩ := b; simp [en_impl_AdvanceUnits] at h; obtain ⟨h1, h2⟩ := h; have h3 := List.append_inj h2.2 h1.1; simp_all)
noncomputable def A_impl_canAdvance (a : DBoard) (b : DState) (c : DUnit) (d : Int) : Option R := call G 38 [(.agg (cBoard a)), (.agg (cState b)), (.agg (cUnit c)), (I d)] []
def en_impl_canAdvance : Bool → R := fun (a : Bool) => (B a, [])
theorem inj_impl_canAdvance : Inj en_impl_canAdvance := fun a b h => by
 first | (simpa [en_impl_canAdvance, Prod.ext_iff, and_assoc] using h) | (obtain _ := a; obtain _ := b; simp [en_impl_canAdvance] at h ⊢; simp_all; done) | (obtain _ := a; obtain _ := b; simp [en_impl_canAdvance] at h; obtain ⟨h1, h2⟩ := h; have h3 := List.append_inj h2.2.2 h1.2.1.1; simp_all) | (obtain _ := a; obtain _ := b; simp [en_impl_canAdvance] at h; obtain ⟨h1, h2⟩ := h; have h3 := List.append_inj h2.2 h1.1; simp_all)
noncomputable def A_spec_sAt (b : DState) (c a : Int) : Option R := call G 83 [(.agg (cState b)), (I c), (I a)] []
def en_spec_sAt : List Int → R := fun (a : List Int) => (slc cI a, [])
theorem inj_spec_sAt : Inj en_spec_sAt := fun a b h => by
 simpa [en_spec_sAt, Prod.ext_iff, and_assoc] using h
noncomputable def A_impl_CanAdvance (a : DBoard) (b : DState) (c d : Int) : Option R := call G 11 [(.agg (cBoard a)), (.agg (cState b)), (I c), (I d)] []
def en_impl_CanAdvance : Bool × Bool → R := fun (a : Bool × Bool) => (AV.tup [B a.fst, B a.snd], [])
theorem inj_impl_CanAdvance : Inj en_impl_CanAdvance := fun a b h => by
 first | (simpa [en_impl_CanAdvance, Prod.ext_iff, and_assoc] using h) | (obtain ⟨_, _⟩ := a; obtain ⟨_, _⟩ := b; simp [en_impl_CanAdvance] at h ⊢; simp_all; done) | (obtain ⟨_, _⟩ := a; obtain ⟨_, _⟩ := b; simp [en_impl_CanAdvance] at h; obtain ⟨h1, h2⟩ := h; have h3 := List.append_inj h2.2.2 h1.2.1.1; simp_all) | (obtain ⟨_, _⟩ := a; obtain ⟨_, _⟩ := b; simp [en_impl_CanAdvance] at h; obtain ⟨h1, h2⟩ := h; have h3 := List.append_inj h2.2 h1.1; simp_all)
noncomputable def A_impl_inZone (b : DBoard) (c : DState) (a d : Int) : Option R := call G 78 [(.agg (cBoard b)), (.agg (cState c)), (I a), (I d)] []
def en_impl_inZone : Bool → R := fun (a : Bool) => (B a, [])
theorem inj_impl_inZone : Inj en_impl_inZone := fun a b h => by
 simpa [en_impl_inZone, Prod.ext_iff, and_assoc] using h
noncomputable def A_impl_distance (a b : DHex) : Option R := call G 107 [(.agg (cHex a)), (.agg (cHex b))] []
def en_impl_distance : Int → R := fun (a : Int) => (I a, [])
theorem inj_impl_distance : Inj en_impl_distance := fun a b h => by
 first | (simpa [en_impl_distance, Prod.ext_iff, and_assoc] using h) | (obtain _ := a; obtain _ := b; simp [en_impl_distance] at h ⊢; simp_all; done) | (obtain _ := a; obtain _ := b; simp [en_impl_distance] at h; obtain ⟨h1, h2⟩ := h; have h3 := List.append_inj h2.2.2 h1.2.1.1; simp_all) | (obtain _ := a; obtain _ := b; simp [en_impl_distance] at h; obtain ⟨h1, h2⟩ := h; have h3 := List.append_inj h2.2 h1.1; simp_all)
noncomputable def A_impl_isName (a : ByteArray) : Option R := call G 121 [(S a)] []
def en_impl_isName : Bool → R := fun (a : Bool) => (B a, [])
theorem inj_impl_isName : Inj en_impl_isName := fun a b h => by
 simpa [en_impl_isName, Prod.ext_iff, and_assoc] using h
noncomputable def A_impl_ownerOf (a : DState) (b : Int) : Option R := call G 102 [(.agg (cState a)), (I b)] []
def en_impl_ownerOf : Int → R := fun (a : Int) => (I a, [])
theorem inj_impl_ownerOf : Inj en_impl_ownerOf := fun a b h => by
 simpa [en_impl_ownerOf, Prod.ext_iff, and_assoc] using h
noncomputable def A_impl_increasing (a : List Int) : Option R := call G 52 [(slc cI a)] []
def en_impl_increasing : Bool → R := fun (a : Bool) => (B a, [])
theorem inj_impl_increasing : Inj en_impl_increasing := fun a b h => by
 simpa [en_impl_increasing, Prod.ext_iff, and_assoc] using h
noncomputable def A_spec_IsTrapped (a : DBoard) (b : DState) (c : Int) : Option R := call G 15 [(.agg (cBoard a)), (.agg (cState b)), (I c)] []
def en_spec_IsTrapped : Bool × Bool → R := fun (a : Bool × Bool) => (AV.tup [B a.fst, B a.snd], [])
theorem inj_spec_IsTrapped : Inj en_spec_IsTrapped := fun a b h => by
 first | (simpa [en_spec_IsTrapped, Prod.ext_iff, and_assoc] using h) | (obtain ⟨_, _⟩ := a; obtain ⟨_, _⟩ := b; simp [en_spec_IsTrapped] at h ⊢; simp_all; done) | (obtain ⟨_, _⟩ := a; obtain ⟨_, _⟩ := b; simp [en_spec_IsTrapped] at h; obtain ⟨h1, h2⟩ := h; have h3 := List.append_inj h2.2.2 h1.2.1.1; simp_all) | (obtain ⟨_, _⟩ := a; obtain ⟨_, _⟩ := b; simp [en_spec_IsTrapped] at h; obtain ⟨h1, h2⟩ := h; have h3 := List.append_inj h2.2 h1.1; simp_all)
noncomputable def A_sc_pick (a : Dl1Cur) (b : Int) : Option R := call G 36 [(AV.ptr (Id.l 0) none 0), (I b)] [(Id.l 0, bl (cl1Cur a))]
def en_sc_pick : Int × Dl1Cur → R := fun (a : Int × Dl1Cur) => (I a.fst, [(Id.l 0, bl (cl1Cur a.snd))])
theorem inj_sc_pick : Inj en_sc_pick := fun a b h => by
 simpa [en_sc_pick, Prod.ext_iff, and_assoc] using h
noncomputable def A_spec_l1All (c : List Int) (a b : Int) : Option R := call G 120 [(slc cI c), (I a), (I b)] []
def en_spec_l1All : Bool → R := fun (a : Bool) => (B a, [])
theorem inj_spec_l1All : Inj en_spec_l1All := fun a b h => by
 simpa [en_spec_l1All, Prod.ext_iff, and_assoc] using h
noncomputable def A_impl_retreatsOf (a : DBoard) (b : DState) (c d : Int) : Option R := call G 41 [(.agg (cBoard a)), (.agg (cState b)), (I c), (I d)] []
def en_impl_retreatsOf : List (List Int) → R := fun (a : List (List Int)) => (slc cLI a, [])
theorem inj_impl_retreatsOf : Inj en_impl_retreatsOf := fun a b h => by
 first | (simpa [en_impl_retreatsOf, Prod.ext_iff, and_assoc] using h) | (obtain _ := a; obtain _ := b; simp [en_impl_retreatsOf] at h ⊢; simp_all; done) | (obtain _ := a; obtain _ := b; simp [en_impl_retreatsOf] at h; obtain ⟨h1, h2⟩ := h; have h3 := List.append_inj h2.2.2 h1.2.1.1; simp_all) | (obtain _ := a; obtain _ := b; simp [en_impl_retreatsOf] at h; obtain ⟨h1, h2⟩ := h; have h3 := List.append_inj h2.2 h1.1; simp_all)
noncomputable def A_spec_DrawRetreatSteps (a : KSl) : Option R := call G 40 [(Kn a)] []
def en_spec_DrawRetreatSteps : DBoard × DState × Int → R := fun (a : DBoard × DState × Int) => (AV.tup [AV.agg (cBoard a.fst), AV.agg (cState a.snd.fst), I a.snd.snd], [])
theorem inj_spec_DrawRetreatSteps : Inj en_spec_DrawRetreatSteps := fun a b h => by
 first | (simpa [en_spec_DrawRetreatSteps, Prod.ext_iff, and_assoc] using h) | (obtain ⟨⟨⟨_, _, _, _, _, _, _⟩, ⟨_, _, _, _, _⟩⟩, ⟨⟨_, _, _⟩, _⟩⟩ := a; obtain ⟨⟨⟨_, _, _, _, _, _, _⟩, ⟨_, _, _, _, _⟩⟩, ⟨⟨_, _, _⟩, _⟩⟩ := b; simp [en_spec_DrawRetreatSteps] at h ⊢; simp_all; done) | (obtain ⟨⟨⟨_, _, _, _, _, _, _⟩, ⟨_, _, _, _, _⟩⟩, ⟨⟨_, _, _⟩, _⟩⟩ := a; obtain ⟨⟨⟨_, _, _, _, _, _, _⟩, ⟨_, _, _, _, _⟩⟩, ⟨⟨_, _, _⟩, _⟩⟩ := b; simp [en_spec_DrawRetreatSteps] at h; obtain ⟨h1, h2⟩ := h; have h3 := List.append_inj h2.2.2 h1.2.1.1; simp_all) | (obtain ⟨⟨⟨_, _, _, _, _, _, _⟩, ⟨_, _, _, _, _⟩⟩, ⟨⟨_, _, _⟩, _⟩⟩ := a; obtain ⟨⟨⟨_, _, _, _, _, _, _⟩, ⟨_, _, _, _, _⟩⟩, ⟨⟨_, _, _⟩, _⟩⟩ := b; simp [en_spec_DrawRetreatSteps] at h; obtain ⟨h1, h2⟩ := h; have h3 := List.append_inj h2.2 h1.1; simp_all)
noncomputable def A_laws_big (a b : KSl) : Option R := call G 4 [(Kn a), (Kn b)] []
def en_laws_big : Bool → R := fun (a : Bool) => (B a, [])
theorem inj_laws_big : Inj en_laws_big := fun a b h => by
 simpa [en_laws_big, Prod.ext_iff, and_assoc] using h
noncomputable def A_sc_game (a : Dl1Cur) : Option R := call G 49 [(AV.ptr (Id.l 0) none 0)] [(Id.l 0, bl (cl1Cur a))]
noncomputable def A_impl_hexOf (a : DMap) (b : Int) : Option R := call G 81 [(.agg (cMap a)), (I b)] []
def en_impl_hexOf : DHex → R := fun (a : DHex) => (AV.agg (cHex a), [])
theorem inj_impl_hexOf : Inj en_impl_hexOf := fun a b h => by
 simpa [en_impl_hexOf, Prod.ext_iff, and_assoc] using h
noncomputable def A_impl_nextTo (a : DMap) (b c : Int) : Option R := call G 45 [(.agg (cMap a)), (I b), (I c)] []
def en_impl_nextTo : Int → R := fun (a : Int) => (I a, [])
theorem inj_impl_nextTo : Inj en_impl_nextTo := fun a b h => by
 simpa [en_impl_nextTo, Prod.ext_iff, and_assoc] using h
noncomputable def A_spec_mNext (a : DMap) (b c : Int) : Option R := call G 35 [(.agg (cMap a)), (I b), (I c)] []
def en_spec_mNext : Int → R := fun (a : Int) => (I a, [])
theorem inj_spec_mNext : Inj en_spec_mNext := fun a b h => by
 simpa [en_spec_mNext, Prod.ext_iff, and_assoc] using h
noncomputable def A_spec_mRoad (a : DMap) (b c : Int) : Option R := call G 103 [(.agg (cMap a)), (I b), (I c)] []
def en_spec_mRoad : Bool → R := fun (a : Bool) => (B a, [])
theorem inj_spec_mRoad : Inj en_spec_mRoad := fun a b h => by
 simpa [en_spec_mRoad, Prod.ext_iff, and_assoc] using h
noncomputable def A_spec_mSize (a : DMap) : Option R := call G 29 [(.agg (cMap a))] []
def en_spec_mSize : Int → R := fun (a : Int) => (I a, [])
theorem inj_spec_mSize : Inj en_spec_mSize := fun a b h => by
 simpa [en_spec_mSize, Prod.ext_iff, and_assoc] using h
noncomputable def A_impl_isIndex (b a : Int) : Option R := call G 24 [(I b), (I a)] []
def en_impl_isIndex : Bool → R := fun (a : Bool) => (B a, [])
theorem inj_impl_isIndex : Inj en_impl_isIndex := fun a b h => by
 simpa [en_impl_isIndex, Prod.ext_iff, and_assoc] using h
noncomputable def A_impl_kindIndex (a : List DKind) (b : ByteArray) : Option R := call G 96 [(slc cKind a), (S b)] []
def en_impl_kindIndex : Int → R := fun (a : Int) => (I a, [])
theorem inj_impl_kindIndex : Inj en_impl_kindIndex := fun a b h => by
 simpa [en_impl_kindIndex, Prod.ext_iff, and_assoc] using h
noncomputable def A_spec_DrawAdvanceUnits (a : KSl) : Option R := call G 5 [(Kn a)] []
def en_spec_DrawAdvanceUnits : DBoard × DState × List Int × Int → R := fun (a : DBoard × DState × List Int × Int) => (AV.tup [AV.agg (cBoard a.fst), AV.agg (cState a.snd.fst), slc cI a.snd.snd.fst, I a.snd.snd.snd], [])
theorem inj_spec_DrawAdvanceUnits : Inj en_spec_DrawAdvanceUnits := fun a b h => by
 first | (simpa [en_spec_DrawAdvanceUnits, Prod.ext_iff, and_assoc] using h) | (obtain ⟨⟨⟨_, _, _, _, _, _, _⟩, ⟨_, _, _, _, _⟩⟩, ⟨⟨_, _, _⟩, ⟨_, _⟩⟩⟩ := a; obtain ⟨⟨⟨_, _, _, _, _, _, _⟩, ⟨_, _, _, _, _⟩⟩, ⟨⟨_, _, _⟩, ⟨_, _⟩⟩⟩ := b; simp [en_spec_DrawAdvanceUnits] at h ⊢; simp_all; done) | (obtain ⟨⟨⟨_, _, _, _, _, _, _⟩, ⟨_, _, _, _, _⟩⟩, ⟨⟨_, _, _⟩, ⟨_, _⟩⟩⟩ := a; obtain ⟨⟨⟨_, _, _, _, _, _, _⟩, ⟨_, _, _, _, _⟩⟩, ⟨⟨_, _, _⟩, ⟨_, _⟩⟩⟩ := b; simp [en_spec_DrawAdvanceUnits] at h; obtain ⟨h1, h2⟩ := h; have h3 := List.append_inj h2.2.2 h1.2.1.1; simp_all) | (obtain ⟨⟨⟨_, _, _, _, _, _, _⟩, ⟨_, _, _, _, _⟩⟩, ⟨⟨_, _, _⟩, ⟨_, _⟩⟩⟩ := a; obtain ⟨⟨⟨_, _, _, _, _, _, _⟩, ⟨_, _, _, _, _⟩⟩, ⟨⟨_, _, _⟩, ⟨_, _⟩⟩⟩ := b; simp [en_spec_DrawAdvanceUnits] at h; obtain ⟨h1, h2⟩ := h; have h3 := List.append_inj h2.2 h1.1; simp_all)
noncomputable def A_spec_AdvanceUnits (b : DBoard) (c : DState) (a : List Int) (d : Int) : Option R := call G 7 [(.agg (cBoard b)), (.agg (cState c)), (slc cI a), (I d)] []
def en_spec_AdvanceUnits : DState × Int × Bool → R := fun (a : DState × Int × Bool) => (AV.tup [AV.agg (cState a.fst), I a.snd.fst, B a.snd.snd], [])
theorem inj_spec_AdvanceUnits : Inj en_spec_AdvanceUnits := fun a b h => by
 first | (simpa [en_spec_AdvanceUnits, Prod.ext_iff, and_assoc] using h) | (obtain ⟨⟨_, _, _⟩, ⟨_, _⟩⟩ := a; obtain ⟨⟨_, _, _⟩, ⟨_, _⟩⟩ := b; simp [en_spec_AdvanceUnits] at h ⊢; simp_all; done) | (obtain ⟨⟨_, _, _⟩, ⟨_, _⟩⟩ := a; obtain ⟨⟨_, _, _⟩, ⟨_, _⟩⟩ := b; simp [en_spec_AdvanceUnits] at h; obtain ⟨h1, h2⟩ := h; have h3 := List.append_inj h2.2.2 h1.2.1.1; simp_all) | (obtain ⟨⟨_, _, _⟩, ⟨_, _⟩⟩ := a; obtain ⟨⟨_, _, _⟩, ⟨_, _⟩⟩ := b; simp [en_spec_AdvanceUnits] at h; obtain ⟨h1, h2⟩ := h; have h3 := List.append_inj h2.2 h1.1; simp_all)
noncomputable def A_impl_IsState (a : DBoard) (b : DState) : Option R := call G 9 [(.agg (cBoard a)), (.agg (cState b))] []
def en_impl_IsState : Bool × Bool → R := fun (a : Bool × Bool) => (AV.tup [B a.fst, B a.snd], [])
theorem inj_impl_IsState : Inj en_impl_IsState := fun a b h => by
 first | (simpa [en_impl_IsState, Prod.ext_iff, and_assoc] using h) | (obtain ⟨_, _⟩ := a; obtain ⟨_, _⟩ := b; simp [en_impl_IsState] at h ⊢; simp_all; done) | (obtain ⟨_, _⟩ := a; obtain ⟨_, _⟩ := b; simp [en_impl_IsState] at h; obtain ⟨h1, h2⟩ := h; have h3 := List.append_inj h2.2.2 h1.2.1.1; simp_all) | (obtain ⟨_, _⟩ := a; obtain ⟨_, _⟩ := b; simp [en_impl_IsState] at h; obtain ⟨h1, h2⟩ := h; have h3 := List.append_inj h2.2 h1.1; simp_all)
noncomputable def A_spec_DrawCanAdvance (a : KSl) : Option R := call G 10 [(Kn a)] []
def en_spec_DrawCanAdvance : DBoard × DState × Int × Int → R := fun (a : DBoard × DState × Int × Int) => (AV.tup [AV.agg (cBoard a.fst), AV.agg (cState a.snd.fst), I a.snd.snd.fst, I a.snd.snd.snd], [])
theorem inj_spec_DrawCanAdvance : Inj en_spec_DrawCanAdvance := fun a b h => by
 first | (simpa [en_spec_DrawCanAdvance, Prod.ext_iff, and_assoc] using h) | (obtain ⟨⟨⟨_, _, _, _, _, _, _⟩, ⟨_, _, _, _, _⟩⟩, ⟨⟨_, _, _⟩, ⟨_, _⟩⟩⟩ := a; obtain ⟨⟨⟨_, _, _, _, _, _, _⟩, ⟨_, _, _, _, _⟩⟩, ⟨⟨_, _, _⟩, ⟨_, _⟩⟩⟩ := b; simp [en_spec_DrawCanAdvance] at h ⊢; simp_all; done) | (obtain ⟨⟨⟨_, _, _, _, _, _, _⟩, ⟨_, _, _, _, _⟩⟩, ⟨⟨_, _, _⟩, ⟨_, _⟩⟩⟩ := a; obtain ⟨⟨⟨_, _, _, _, _, _, _⟩, ⟨_, _, _, _, _⟩⟩, ⟨⟨_, _, _⟩, ⟨_, _⟩⟩⟩ := b; simp [en_spec_DrawCanAdvance] at h; obtain ⟨h1, h2⟩ := h; have h3 := List.append_inj h2.2.2 h1.2.1.1; simp_all) | (obtain ⟨⟨⟨_, _, _, _, _, _, _⟩, ⟨_, _, _, _, _⟩⟩, ⟨⟨_, _, _⟩, ⟨_, _⟩⟩⟩ := a; obtain ⟨⟨⟨_, _, _, _, _, _, _⟩, ⟨_, _, _, _, _⟩⟩, ⟨⟨_, _, _⟩, ⟨_, _⟩⟩⟩ := b; simp [en_spec_DrawCanAdvance] at h; obtain ⟨h1, h2⟩ := h; have h3 := List.append_inj h2.2 h1.1; simp_all)
noncomputable def A_spec_CanAdvance (a : DBoard) (b : DState) (c d : Int) : Option R := call G 12 [(.agg (cBoard a)), (.agg (cState b)), (I c), (I d)] []
def en_spec_CanAdvance : Bool × Bool → R := fun (a : Bool × Bool) => (AV.tup [B a.fst, B a.snd], [])
theorem inj_spec_CanAdvance : Inj en_spec_CanAdvance := fun a b h => by
 first | (simpa [en_spec_CanAdvance, Prod.ext_iff, and_assoc] using h) | (obtain ⟨_, _⟩ := a; obtain ⟨_, _⟩ := b; simp [en_spec_CanAdvance] at h ⊢; simp_all; done) | (obtain ⟨_, _⟩ := a; obtain ⟨_, _⟩ := b; simp [en_spec_CanAdvance] at h; obtain ⟨h1, h2⟩ := h; have h3 := List.append_inj h2.2.2 h1.2.1.1; simp_all) | (obtain ⟨_, _⟩ := a; obtain ⟨_, _⟩ := b; simp [en_spec_CanAdvance] at h; obtain ⟨h1, h2⟩ := h; have h3 := List.append_inj h2.2 h1.1; simp_all)
noncomputable def A_spec_DrawIsTrapped (a : KSl) : Option R := call G 13 [(Kn a)] []
def en_spec_DrawIsTrapped : DBoard × DState × Int → R := fun (a : DBoard × DState × Int) => (AV.tup [AV.agg (cBoard a.fst), AV.agg (cState a.snd.fst), I a.snd.snd], [])
theorem inj_spec_DrawIsTrapped : Inj en_spec_DrawIsTrapped := fun a b h => by
 first | (simpa [en_spec_DrawIsTrapped, Prod.ext_iff, and_assoc] using h) | (obtain ⟨⟨⟨_, _, _, _, _, _, _⟩, ⟨_, _, _, _, _⟩⟩, ⟨⟨_, _, _⟩, _⟩⟩ := a; obtain ⟨⟨⟨_, _, _, _, _, _, _⟩, ⟨_, _, _, _, _⟩⟩, ⟨⟨_, _, _⟩, _⟩⟩ := b; simp [en_spec_DrawIsTrapped] at h ⊢; simp_all; done) | (obtain ⟨⟨⟨_, _, _, _, _, _, _⟩, ⟨_, _, _, _, _⟩⟩, ⟨⟨_, _, _⟩, _⟩⟩ := a; obtain ⟨⟨⟨_, _, _, _, _, _, _⟩, ⟨_, _, _, _, _⟩⟩, ⟨⟨_, _, _⟩, _⟩⟩ := b; simp [en_spec_DrawIsTrapped] at h; obtain ⟨h1, h2⟩ := h; have h3 := List.append_inj h2.2.2 h1.2.1.1; simp_all) | (obtain ⟨⟨⟨_, _, _, _, _, _, _⟩, ⟨_, _, _, _, _⟩⟩, ⟨⟨_, _, _⟩, _⟩⟩ := a; obtain ⟨⟨⟨_, _, _, _, _, _, _⟩, ⟨_, _, _, _, _⟩⟩, ⟨⟨_, _, _⟩, _⟩⟩ := b; simp [en_spec_DrawIsTrapped] at h; obtain ⟨h1, h2⟩ := h; have h3 := List.append_inj h2.2 h1.1; simp_all)
noncomputable def A_impl_IsTrapped (a : DBoard) (b : DState) (c : Int) : Option R := call G 14 [(.agg (cBoard a)), (.agg (cState b)), (I c)] []
def en_impl_IsTrapped : Bool × Bool → R := fun (a : Bool × Bool) => (AV.tup [B a.fst, B a.snd], [])
theorem inj_impl_IsTrapped : Inj en_impl_IsTrapped := fun a b h => by
 first | (simpa [en_impl_IsTrapped, Prod.ext_iff, and_assoc] using h) | (obtain ⟨_, _⟩ := a; obtain ⟨_, _⟩ := b; simp [en_impl_IsTrapped] at h ⊢; simp_all; done) | (obtain ⟨_, _⟩ := a; obtain ⟨_, _⟩ := b; simp [en_impl_IsTrapped] at h; obtain ⟨h1, h2⟩ := h; have h3 := List.append_inj h2.2.2 h1.2.1.1; simp_all) | (obtain ⟨_, _⟩ := a; obtain ⟨_, _⟩ := b; simp [en_impl_IsTrapped] at h; obtain ⟨h1, h2⟩ := h; have h3 := List.append_inj h2.2 h1.1; simp_all)
noncomputable def A_impl_CountRetreats (a : DBoard) (b : DState) (c d : Int) : Option R := call G 16 [(.agg (cBoard a)), (.agg (cState b)), (I c), (I d)] []
def en_impl_CountRetreats : Int × Bool → R := fun (a : Int × Bool) => (AV.tup [I a.fst, B a.snd], [])
theorem inj_impl_CountRetreats : Inj en_impl_CountRetreats := fun a b h => by
 first | (simpa [en_impl_CountRetreats, Prod.ext_iff, and_assoc] using h) | (obtain ⟨_, _⟩ := a; obtain ⟨_, _⟩ := b; simp [en_impl_CountRetreats] at h ⊢; simp_all; done) | (obtain ⟨_, _⟩ := a; obtain ⟨_, _⟩ := b; simp [en_impl_CountRetreats] at h; obtain ⟨h1, h2⟩ := h; have h3 := List.append_inj h2.2.2 h1.2.1.1; simp_all) | (obtain ⟨_, _⟩ := a; obtain ⟨_, _⟩ := b; simp [en_impl_CountRetreats] at h; obtain ⟨h1, h2⟩ := h; have h3 := List.append_inj h2.2 h1.1; simp_all)
noncomputable def A_impl_RetreatSteps (a : DBoard) (b : DState) (c : Int) : Option R := call G 17 [(.agg (cBoard a)), (.agg (cState b)), (I c)] []
def en_impl_RetreatSteps : List Int × Bool → R := fun (a : List Int × Bool) => (AV.tup [slc cI a.fst, B a.snd], [])
theorem inj_impl_RetreatSteps : Inj en_impl_RetreatSteps := fun a b h => by
 first | (simpa [en_impl_RetreatSteps, Prod.ext_iff, and_assoc] using h) | (obtain ⟨_, _⟩ := a; obtain ⟨_, _⟩ := b; simp [en_impl_RetreatSteps] at h ⊢; simp_all; done) | (obtain ⟨_, _⟩ := a; obtain ⟨_, _⟩ := b; simp [en_impl_RetreatSteps] at h; obtain ⟨h1, h2⟩ := h; have h3 := List.append_inj h2.2.2 h1.2.1.1; simp_all) | (obtain ⟨_, _⟩ := a; obtain ⟨_, _⟩ := b; simp [en_impl_RetreatSteps] at h; obtain ⟨h1, h2⟩ := h; have h3 := List.append_inj h2.2 h1.1; simp_all)
noncomputable def A_spec_RetreatSteps (a : DBoard) (b : DState) (c : Int) : Option R := call G 18 [(.agg (cBoard a)), (.agg (cState b)), (I c)] []
def en_spec_RetreatSteps : List Int × Bool → R := fun (a : List Int × Bool) => (AV.tup [slc cI a.fst, B a.snd], [])
theorem inj_spec_RetreatSteps : Inj en_spec_RetreatSteps := fun a b h => by
 first | (simpa [en_spec_RetreatSteps, Prod.ext_iff, and_assoc] using h) | (obtain ⟨_, _⟩ := a; obtain ⟨_, _⟩ := b; simp [en_spec_RetreatSteps] at h ⊢; simp_all; done) | (obtain ⟨_, _⟩ := a; obtain ⟨_, _⟩ := b; simp [en_spec_RetreatSteps] at h; obtain ⟨h1, h2⟩ := h; have h3 := List.append_inj h2.2.2 h1.2.1.1; simp_all) | (obtain ⟨_, _⟩ := a; obtain ⟨_, _⟩ := b; simp [en_spec_RetreatSteps] at h; obtain ⟨h1, h2⟩ := h; have h3 := List.append_inj h2.2 h1.1; simp_all)
noncomputable def A_laws_sameInts (a b : List Int) : Option R := call G 19 [(slc cI a), (slc cI b)] []
def en_laws_sameInts : Bool → R := fun (a : Bool) => (B a, [])
theorem inj_laws_sameInts : Inj en_laws_sameInts := fun a b h => by
 simpa [en_laws_sameInts, Prod.ext_iff, and_assoc] using h
noncomputable def A_sc_board (a : Dl1Cur) : Option R := call G 85 [(AV.ptr (Id.l 0) none 0)] [(Id.l 0, bl (cl1Cur a))]
def en_sc_board : DBoard × Dl1Cur → R := fun (a : DBoard × Dl1Cur) => (AV.agg (cBoard a.fst), [(Id.l 0, bl (cl1Cur a.snd))])
theorem inj_sc_board : Inj en_sc_board := fun a b h => by
 simpa [en_sc_board, Prod.ext_iff, and_assoc] using h
noncomputable def A_sc_one (a : Dl1Cur) (b : Int) : Option R := call G 34 [(AV.ptr (Id.l 0) none 0), (I b)] [(Id.l 0, bl (cl1Cur a))]
def en_sc_one : Bool × Dl1Cur → R := fun (a : Bool × Dl1Cur) => (B a.fst, [(Id.l 0, bl (cl1Cur a.snd))])
theorem inj_sc_one : Inj en_sc_one := fun a b h => by
 simpa [en_sc_one, Prod.ext_iff, and_assoc] using h
noncomputable def A_sc_state (a : Dl1Cur) (b : DBoard) : Option R := call G 86 [(AV.ptr (Id.l 0) none 0), (.agg (cBoard b))] [(Id.l 0, bl (cl1Cur a))]
def en_sc_state : DState × Dl1Cur → R := fun (a : DState × Dl1Cur) => (AV.agg [I a.fst.Turn, I a.fst.Weather, AV.own (Id.r 0 0) none 0 a.fst.Units.length a.fst.Units.length], [(Id.l 0, bl (cl1Cur a.snd)), (Id.r 0 0, some (rowB true false 4 cUnit a.fst.Units))])
theorem inj_sc_state : Inj en_sc_state := fun a b h => by
 first | (simpa [en_sc_state, Prod.ext_iff, and_assoc] using h) | (obtain ⟨⟨_, _, _⟩, _⟩ := a; obtain ⟨⟨_, _, _⟩, _⟩ := b; simp [en_sc_state] at h ⊢; simp_all; done) | (obtain ⟨⟨_, _, _⟩, _⟩ := a; obtain ⟨⟨_, _, _⟩, _⟩ := b; simp [en_sc_state] at h; obtain ⟨h1, h2⟩ := h; have h3 := List.append_inj h2.2.2 h1.2.1.1; simp_all) | (obtain ⟨⟨_, _, _⟩, _⟩ := a; obtain ⟨⟨_, _, _⟩, _⟩ := b; simp [en_sc_state] at h; obtain ⟨h1, h2⟩ := h; have h3 := List.append_inj h2.2 h1.1; simp_all)
noncomputable def A_spec_bCost (b : DBoard) (a c : Int) : Option R := call G 82 [(.agg (cBoard b)), (I a), (I c)] []
def en_spec_bCost : Int → R := fun (a : Int) => (I a, [])
theorem inj_spec_bCost : Inj en_spec_bCost := fun a b h => by
 simpa [en_spec_bCost, Prod.ext_iff, and_assoc] using h
noncomputable def A_spec_zIn (b : DBoard) (c : DState) (d a : Int) : Option R := call G 84 [(.agg (cBoard b)), (.agg (cState c)), (I d), (I a)] []
def en_spec_zIn : Bool → R := fun (a : Bool) => (B a, [])
theorem inj_spec_zIn : Inj en_spec_zIn := fun a b h => by
 simpa [en_spec_zIn, Prod.ext_iff, and_assoc] using h
noncomputable def A_spec_l1In (c a b : Int) : Option R := call G 28 [(I c), (I a), (I b)] []
def en_spec_l1In : Bool → R := fun (a : Bool) => (B a, [])
theorem inj_spec_l1In : Inj en_spec_l1In := fun a b h => by
 simpa [en_spec_l1In, Prod.ext_iff, and_assoc] using h
noncomputable def A_impl_enterCost (b : DBoard) (a c : Int) : Option R := call G 76 [(.agg (cBoard b)), (I a), (I c)] []
def en_impl_enterCost : Int → R := fun (a : Int) => (I a, [])
theorem inj_impl_enterCost : Inj en_impl_enterCost := fun a b h => by
 simpa [en_impl_enterCost, Prod.ext_iff, and_assoc] using h
noncomputable def A_impl_cloneState (a : DState) : Option R := call G 56 [(.agg (cState a))] []
def en_impl_cloneState : DState → R := fun (a : DState) => (AV.agg [I a.Turn, I a.Weather, AV.own (Id.r 0 0) none 0 a.Units.length a.Units.length], [(Id.r 0 0, some (rowB true false 4 cUnit a.Units))])
theorem inj_impl_cloneState : Inj en_impl_cloneState := fun a b h => by
 first | (simpa [en_impl_cloneState, Prod.ext_iff, and_assoc] using h) | (obtain ⟨_, _, _⟩ := a; obtain ⟨_, _, _⟩ := b; simp [en_impl_cloneState] at h ⊢; simp_all; done) | (obtain ⟨_, _, _⟩ := a; obtain ⟨_, _, _⟩ := b; simp [en_impl_cloneState] at h; obtain ⟨h1, h2⟩ := h; have h3 := List.append_inj h2.2.2 h1.2.1.1; simp_all) | (obtain ⟨_, _, _⟩ := a; obtain ⟨_, _, _⟩ := b; simp [en_impl_cloneState] at h; obtain ⟨h1, h2⟩ := h; have h3 := List.append_inj h2.2 h1.1; simp_all)
noncomputable def A_impl_areOnMap (b : DBoard) (c : DState) (a : List Int) : Option R := call G 23 [(.agg (cBoard b)), (.agg (cState c)), (slc cI a)] []
def en_impl_areOnMap : Bool → R := fun (a : Bool) => (B a, [])
theorem inj_impl_areOnMap : Inj en_impl_areOnMap := fun a b h => by
 first | (simpa [en_impl_areOnMap, Prod.ext_iff, and_assoc] using h) | (obtain _ := a; obtain _ := b; simp [en_impl_areOnMap] at h ⊢; simp_all; done) | (obtain _ := a; obtain _ := b; simp [en_impl_areOnMap] at h; obtain ⟨h1, h2⟩ := h; have h3 := List.append_inj h2.2.2 h1.2.1.1; simp_all) | (obtain _ := a; obtain _ := b; simp [en_impl_areOnMap] at h; obtain ⟨h1, h2⟩ := h; have h3 := List.append_inj h2.2 h1.1; simp_all)
noncomputable def A_impl_sizeOf (a : DBoard) : Option R := call G 25 [(.agg (cBoard a))] []
def en_impl_sizeOf : Int → R := fun (a : Int) => (I a, [])
theorem inj_impl_sizeOf : Inj en_impl_sizeOf := fun a b h => by
 simpa [en_impl_sizeOf, Prod.ext_iff, and_assoc] using h
noncomputable def A_impl_directionOn (a : DMap) (b c : Int) : Option R := call G 69 [(.agg (cMap a)), (I b), (I c)] []
def en_impl_directionOn : Int → R := fun (a : Int) => (I a, [])
theorem inj_impl_directionOn : Inj en_impl_directionOn := fun a b h => by
 first | (simpa [en_impl_directionOn, Prod.ext_iff, and_assoc] using h) | (obtain _ := a; obtain _ := b; simp [en_impl_directionOn] at h ⊢; simp_all; done) | (obtain _ := a; obtain _ := b; simp [en_impl_directionOn] at h; obtain ⟨h1, h2⟩ := h; have h3 := List.append_inj h2.2.2 h1.2.1.1; simp_all) | (obtain _ := a; obtain _ := b; simp [en_impl_directionOn] at h; obtain ⟨h1, h2⟩ := h; have h3 := List.append_inj h2.2 h1.1; simp_all)
noncomputable def A_impl_stepCost (c : DBoard) (b a d e : Int) : Option R := call G 70 [(.agg (cBoard c)), (I b), (I a), (I d), (I e)] []
def en_impl_stepCost : Int → R := fun (a : Int) => (I a, [])
theorem inj_impl_stepCost : Inj en_impl_stepCost := fun a b h => by
 simpa [en_impl_stepCost, Prod.ext_iff, and_assoc] using h
noncomputable def A_impl_stackRoom (b : DBoard) (c : DState) (a d : Int) : Option R := call G 71 [(.agg (cBoard b)), (.agg (cState c)), (I a), (I d)] []
def en_impl_stackRoom : Int → R := fun (a : Int) => (I a, [])
theorem inj_impl_stackRoom : Inj en_impl_stackRoom := fun a b h => by
 first | (simpa [en_impl_stackRoom, Prod.ext_iff, and_assoc] using h) | (obtain _ := a; obtain _ := b; simp [en_impl_stackRoom] at h ⊢; simp_all; done) | (obtain _ := a; obtain _ := b; simp [en_impl_stackRoom] at h; obtain ⟨h1, h2⟩ := h; have h3 := List.append_inj h2.2.2 h1.2.1.1; simp_all) | (obtain _ := a; obtain _ := b; simp [en_impl_stackRoom] at h; obtain ⟨h1, h2⟩ := h; have h3 := List.append_inj h2.2 h1.1; simp_all)
noncomputable def A_impl_onMap (a : DBoard) (b : DState) (c : Int) : Option R := call G 37 [(.agg (cBoard a)), (.agg (cState b)), (I c)] []
def en_impl_onMap : Bool → R := fun (a : Bool) => (B a, [])
theorem inj_impl_onMap : Inj en_impl_onMap := fun a b h => by
 first | (simpa [en_impl_onMap, Prod.ext_iff, and_assoc] using h) | (obtain _ := a; obtain _ := b; simp [en_impl_onMap] at h ⊢; simp_all; done) | (obtain _ := a; obtain _ := b; simp [en_impl_onMap] at h; obtain ⟨h1, h2⟩ := h; have h3 := List.append_inj h2.2.2 h1.2.1.1; simp_all) | (obtain _ := a; obtain _ := b; simp [en_impl_onMap] at h; obtain ⟨h1, h2⟩ := h; have h3 := List.append_inj h2.2 h1.1; simp_all)
noncomputable def A_impl_absOf (a : Int) : Option R := call G 130 [(I a)] []
def en_impl_absOf : Int → R := fun (a : Int) => (I a, [])
theorem inj_impl_absOf : Inj en_impl_absOf := fun a b h => by
 first | (simpa [en_impl_absOf, Prod.ext_iff, and_assoc] using h) | (obtain _ := a; obtain _ := b; simp [en_impl_absOf] at h ⊢; simp_all; done) | (obtain _ := a; obtain _ := b; simp [en_impl_absOf] at h; obtain ⟨h1, h2⟩ := h; have h3 := List.append_inj h2.2.2 h1.2.1.1; simp_all) | (obtain _ := a; obtain _ := b; simp [en_impl_absOf] at h; obtain ⟨h1, h2⟩ := h; have h3 := List.append_inj h2.2 h1.1; simp_all)
noncomputable def A_spec_fOn (a : DBoard) (b : DState) (c : Int) : Option R := call G 33 [(.agg (cBoard a)), (.agg (cState b)), (I c)] []
def en_spec_fOn : Bool → R := fun (a : Bool) => (B a, [])
theorem inj_spec_fOn : Inj en_spec_fOn := fun a b h => by
 first | (simpa [en_spec_fOn, Prod.ext_iff, and_assoc] using h) | (obtain _ := a; obtain _ := b; simp [en_spec_fOn] at h ⊢; simp_all; done) | (obtain _ := a; obtain _ := b; simp [en_spec_fOn] at h; obtain ⟨h1, h2⟩ := h; have h3 := List.append_inj h2.2.2 h1.2.1.1; simp_all) | (obtain _ := a; obtain _ := b; simp [en_spec_fOn] at h; obtain ⟨h1, h2⟩ := h; have h3 := List.append_inj h2.2 h1.1; simp_all)
noncomputable def A_spec_gAll (a : DBoard) (b : DState) (c d : Int) : Option R := call G 42 [(.agg (cBoard a)), (.agg (cState b)), (I c), (I d)] []
def en_spec_gAll : List (List Int) → R := fun (a : List (List Int)) => (slc cLI a, [])
theorem inj_spec_gAll : Inj en_spec_gAll := fun a b h => by
 first | (simpa [en_spec_gAll, Prod.ext_iff, and_assoc] using h) | (obtain _ := a; obtain _ := b; simp [en_spec_gAll] at h ⊢; simp_all; done) | (obtain _ := a; obtain _ := b; simp [en_spec_gAll] at h; obtain ⟨h1, h2⟩ := h; have h3 := List.append_inj h2.2.2 h1.2.1.1; simp_all) | (obtain _ := a; obtain _ := b; simp [en_spec_gAll] at h; obtain ⟨h1, h2⟩ := h; have h3 := List.append_inj h2.2 h1.1; simp_all)
noncomputable def A_sc_next (a : Dl1Cur) : Option R := call G 67 [(AV.ptr (Id.l 0) none 0)] [(Id.l 0, bl (cl1Cur a))]
def en_sc_next : Int × Dl1Cur → R := fun (a : Int × Dl1Cur) => (I a.fst, [(Id.l 0, bl (cl1Cur a.snd))])
theorem inj_sc_next : Inj en_sc_next := fun a b h => by
 simpa [en_sc_next, Prod.ext_iff, and_assoc] using h
noncomputable def A_impl_retreatsFrom (c : DBoard) (d : DState) (e b f : Int) (a : List Int) : Option R := call G 74 [(.agg (cBoard c)), (.agg (cState d)), (I e), (I b), (I f), (slc cI a), .emp] []
def en_impl_retreatsFrom : List (List Int) → R := fun (a : List (List Int)) => (AV.own (Id.r 0 0) none 0 a.length a.length, [(Id.r 0 0, some (rowB true false 1 cLI a))])
theorem inj_impl_retreatsFrom : Inj en_impl_retreatsFrom := fun a b h => by
 first | (simpa [en_impl_retreatsFrom, Prod.ext_iff, and_assoc] using h) | (obtain _ := a; obtain _ := b; simp [en_impl_retreatsFrom] at h ⊢; simp_all; done) | (obtain _ := a; obtain _ := b; simp [en_impl_retreatsFrom] at h; obtain ⟨h1, h2⟩ := h; have h3 := List.append_inj h2.2.2 h1.2.1.1; simp_all) | (obtain _ := a; obtain _ := b; simp [en_impl_retreatsFrom] at h; obtain ⟨h1, h2⟩ := h; have h3 := List.append_inj h2.2 h1.1; simp_all)
noncomputable def A_sc_beaten (a : Dl1Cur) : Option R := call G 20 [(AV.ptr (Id.l 0) none 0)] [(Id.l 0, bl (cl1Cur a))]
def en_sc_beaten : (DBoard × DState × Int) × Dl1Cur → R := fun (a : (DBoard × DState × Int) × Dl1Cur) => (AV.tup [AV.agg (cBoard a.fst.fst), AV.agg (cState a.fst.snd.fst), I a.fst.snd.snd], [(Id.l 0, bl (cl1Cur a.snd))])
theorem inj_sc_beaten : Inj en_sc_beaten := fun a b h => by
 simpa [en_sc_beaten, Prod.ext_iff, and_assoc] using h
noncomputable def A_sc_anyBoard (a : Dl1Cur) : Option R := call G 87 [(AV.ptr (Id.l 0) none 0)] [(Id.l 0, bl (cl1Cur a))]
def en_sc_anyBoard : DBoard × Dl1Cur → R := fun (a : DBoard × Dl1Cur) => (AV.agg (cBoard a.fst), [(Id.l 0, bl (cl1Cur a.snd))])
theorem inj_sc_anyBoard : Inj en_sc_anyBoard := fun a b h => by
 simpa [en_sc_anyBoard, Prod.ext_iff, and_assoc] using h
noncomputable def A_sc_anyState (a : Dl1Cur) (b : DBoard) : Option R := call G 88 [(AV.ptr (Id.l 0) none 0), (.agg (cBoard b))] [(Id.l 0, bl (cl1Cur a))]
def en_sc_anyState : DState × Dl1Cur → R := fun (a : DState × Dl1Cur) => (AV.agg [I a.fst.Turn, I a.fst.Weather, AV.own (Id.r 0 0) none 0 a.fst.Units.length a.fst.Units.length], [(Id.l 0, bl (cl1Cur a.snd)), (Id.r 0 0, some (rowB true false 4 cUnit a.fst.Units))])
theorem inj_sc_anyState : Inj en_sc_anyState := fun a b h => by
 first | (simpa [en_sc_anyState, Prod.ext_iff, and_assoc] using h) | (obtain ⟨⟨_, _, _⟩, _⟩ := a; obtain ⟨⟨_, _, _⟩, _⟩ := b; simp [en_sc_anyState] at h ⊢; simp_all; done) | (obtain ⟨⟨_, _, _⟩, _⟩ := a; obtain ⟨⟨_, _, _⟩, _⟩ := b; simp [en_sc_anyState] at h; obtain ⟨h1, h2⟩ := h; have h3 := List.append_inj h2.2.2 h1.2.1.1; simp_all) | (obtain ⟨⟨_, _, _⟩, _⟩ := a; obtain ⟨⟨_, _, _⟩, _⟩ := b; simp [en_sc_anyState] at h; obtain ⟨h1, h2⟩ := h; have h3 := List.append_inj h2.2 h1.1; simp_all)
noncomputable def A_impl_stepBy (a : DHex) (b c : Int) : Option R := call G 80 [(.agg (cHex a)), (I b), (I c)] []
def en_impl_stepBy : DHex → R := fun (a : DHex) => (AV.agg (cHex a), [])
theorem inj_impl_stepBy : Inj en_impl_stepBy := fun a b h => by
 simpa [en_impl_stepBy, Prod.ext_iff, and_assoc] using h
noncomputable def A_impl_indexOf (a : DMap) (b : DHex) : Option R := call G 79 [(.agg (cMap a)), (.agg (cHex b))] []
def en_impl_indexOf : Int → R := fun (a : Int) => (I a, [])
theorem inj_impl_indexOf : Inj en_impl_indexOf := fun a b h => by
 simpa [en_impl_indexOf, Prod.ext_iff, and_assoc] using h
noncomputable def A_spec_mHex (a : DMap) (b : Int) : Option R := call G 66 [(.agg (cMap a)), (I b)] []
def en_spec_mHex : DHex → R := fun (a : DHex) => (AV.agg (cHex a), [])
theorem inj_spec_mHex : Inj en_spec_mHex := fun a b h => by
 simpa [en_spec_mHex, Prod.ext_iff, and_assoc] using h
noncomputable def A_spec_hStep (a : DHex) (b : Int) : Option R := call G 65 [(.agg (cHex a)), (I b)] []
def en_spec_hStep : DHex → R := fun (a : DHex) => (AV.agg (cHex a), [])
theorem inj_spec_hStep : Inj en_spec_hStep := fun a b h => by
 simpa [en_spec_hStep, Prod.ext_iff, and_assoc] using h
noncomputable def A_spec_mIndex (a : DMap) (b : DHex) : Option R := call G 64 [(.agg (cMap a)), (.agg (cHex b))] []
def en_spec_mIndex : Int → R := fun (a : Int) => (I a, [])
theorem inj_spec_mIndex : Inj en_spec_mIndex := fun a b h => by
 simpa [en_spec_mIndex, Prod.ext_iff, and_assoc] using h
noncomputable def A_spec_mEdge (a : DMap) (b c : Int) : Option R := call G 129 [(.agg (cMap a)), (I b), (I c)] []
def en_spec_mEdge : Int → R := fun (a : Int) => (I a, [])
theorem inj_spec_mEdge : Inj en_spec_mEdge := fun a b h => by
 simpa [en_spec_mEdge, Prod.ext_iff, and_assoc] using h
noncomputable def A_spec_l1Has (a : List Int) (b : Int) : Option R := call G 128 [(slc cI a), (I b)] []
def en_spec_l1Has : Bool → R := fun (a : Bool) => (B a, [])
theorem inj_spec_l1Has : Inj en_spec_l1Has := fun a b h => by
 simpa [en_spec_l1Has, Prod.ext_iff, and_assoc] using h
noncomputable def A_impl_inRange (c b a : Int) : Option R := call G 55 [(I c), (I b), (I a)] []
def en_impl_inRange : Bool → R := fun (a : Bool) => (B a, [])
theorem inj_impl_inRange : Inj en_impl_inRange := fun a b h => by
 simpa [en_impl_inRange, Prod.ext_iff, and_assoc] using h
noncomputable def A_slices_IndexFunc_Kind_of_impl_kindIndex_1 (a : ByteArray) (b : List DKind) : Option R := call G 125 [(slc cKind b), (.clo 126 [(AV.ptr (Id.l 0) none 0)])] [(Id.l 0, some ⟨false, false, false, 0, [(S a)]⟩)]
def en_slices_IndexFunc_Kind_of_impl_kindIndex_1 : Int × ByteArray → R := fun (a : Int × ByteArray) => (I a.fst, [(Id.l 0, bl [S a.snd])])
theorem inj_slices_IndexFunc_Kind_of_impl_kindIndex_1 : Inj en_slices_IndexFunc_Kind_of_impl_kindIndex_1 := fun a b h => by
 simpa [en_slices_IndexFunc_Kind_of_impl_kindIndex_1, Prod.ext_iff, and_assoc] using h
noncomputable def A_spec_sGood (a : DBoard) (b : DState) : Option R := call G 57 [(.agg (cBoard a)), (.agg (cState b))] []
def en_spec_sGood : Bool → R := fun (a : Bool) => (B a, [])
theorem inj_spec_sGood : Inj en_spec_sGood := fun a b h => by
 simpa [en_spec_sGood, Prod.ext_iff, and_assoc] using h
noncomputable def A_impl_edgeOf (a : DMap) (b c : Int) : Option R := call G 99 [(.agg (cMap a)), (I b), (I c)] []
def en_impl_edgeOf : Int → R := fun (a : Int) => (I a, [])
theorem inj_impl_edgeOf : Inj en_impl_edgeOf := fun a b h => by
 simpa [en_impl_edgeOf, Prod.ext_iff, and_assoc] using h
noncomputable def A_impl_crossesFreely (b : DMap) (a : Int) : Option R := call G 132 [(.agg (cMap b)), (I a)] []
def en_impl_crossesFreely : Bool → R := fun (a : Bool) => (B a, [])
theorem inj_impl_crossesFreely : Inj en_impl_crossesFreely := fun a b h => by
 simpa [en_impl_crossesFreely, Prod.ext_iff, and_assoc] using h
noncomputable def A_slices_Clone_int (s0 : List Int) : Option R := call G 106 [(slc cI s0)] []
def en_slices_Clone_int : List Int → R := fun (a : List Int) => (AV.own (Id.r 0 0) none 0 a.length a.length, [(Id.r 0 0, some (rowB true false 1 cI a))])
theorem inj_slices_Clone_int : Inj en_slices_Clone_int := fun a b h => by
 first | (simpa [en_slices_Clone_int, Prod.ext_iff, and_assoc] using h) | (obtain _ := a; obtain _ := b; simp [en_slices_Clone_int] at h ⊢; simp_all; done) | (obtain _ := a; obtain _ := b; simp [en_slices_Clone_int] at h; obtain ⟨h1, h2⟩ := h; have h3 := List.append_inj h2.2.2 h1.2.1.1; simp_all) | (obtain _ := a; obtain _ := b; simp [en_slices_Clone_int] at h; obtain ⟨h1, h2⟩ := h; have h3 := List.append_inj h2.2 h1.1; simp_all)
noncomputable def A_impl_canFallBack (b : DBoard) (c : DState) (d a : Int) : Option R := call G 44 [(.agg (cBoard b)), (.agg (cState c)), (I d), (I a)] []
def en_impl_canFallBack : Bool → R := fun (a : Bool) => (B a, [])
theorem inj_impl_canFallBack : Inj en_impl_canFallBack := fun a b h => by
 first | (simpa [en_impl_canFallBack, Prod.ext_iff, and_assoc] using h) | (obtain _ := a; obtain _ := b; simp [en_impl_canFallBack] at h ⊢; simp_all; done) | (obtain _ := a; obtain _ := b; simp [en_impl_canFallBack] at h; obtain ⟨h1, h2⟩ := h; have h3 := List.append_inj h2.2.2 h1.2.1.1; simp_all) | (obtain _ := a; obtain _ := b; simp [en_impl_canFallBack] at h; obtain ⟨h1, h2⟩ := h; have h3 := List.append_inj h2.2 h1.1; simp_all)
noncomputable def A_impl_retreatsFrom_1 (a : List (List Int)) (d : DBoard) (e : DState) (f c g : Int) (b : List Int) : Option R := call G 74 [(.agg (cBoard d)), (.agg (cState e)), (I f), (I c), (I g), (slc cI b), (.own (Id.l 0) none 0 a.length a.length)] [(Id.l 0, some (rowB false false 1 cLI a))]
def en_impl_retreatsFrom_1 : List (List Int) → R := fun (a : List (List Int)) => (AV.own (Id.r 0 0) none 0 a.length a.length, [(Id.l 0, none), (Id.r 0 0, some (rowB false false 1 cLI a))])
theorem inj_impl_retreatsFrom_1 : Inj en_impl_retreatsFrom_1 := fun a b h => by
 first | (simpa [en_impl_retreatsFrom_1, Prod.ext_iff, and_assoc] using h) | (obtain _ := a; obtain _ := b; simp [en_impl_retreatsFrom_1] at h ⊢; simp_all; done) | (obtain _ := a; obtain _ := b; simp [en_impl_retreatsFrom_1] at h; obtain ⟨h1, h2⟩ := h; have h3 := List.append_inj h2.2.2 h1.2.1.1; simp_all) | (obtain _ := a; obtain _ := b; simp [en_impl_retreatsFrom_1] at h; obtain ⟨h1, h2⟩ := h; have h3 := List.append_inj h2.2 h1.1; simp_all)
noncomputable def A_impl_kindIndex_1 (a : ByteArray) (b : DKind) : Option R := call G 126 [(.agg (cKind b)), (AV.ptr (Id.l 0) none 0)] [(Id.l 0, some ⟨false, false, false, 0, [(S a)]⟩)]
def en_impl_kindIndex_1 : Bool × ByteArray → R := fun (a : Bool × ByteArray) => (B a.fst, [(Id.l 0, bl [S a.snd])])
theorem inj_impl_kindIndex_1 : Inj en_impl_kindIndex_1 := fun a b h => by
 simpa [en_impl_kindIndex_1, Prod.ext_iff, and_assoc] using h
noncomputable def A_spec_rGood (a : DRules) : Option R := call G 118 [(.agg (cRules a))] []
def en_spec_rGood : Bool → R := fun (a : Bool) => (B a, [])
theorem inj_spec_rGood : Inj en_spec_rGood := fun a b h => by
 simpa [en_spec_rGood, Prod.ext_iff, and_assoc] using h
noncomputable def A_impl_goodState (a : DBoard) (b : DState) : Option R := call G 32 [(.agg (cBoard a)), (.agg (cState b))] []
def en_impl_goodState : Bool → R := fun (a : Bool) => (B a, [])
theorem inj_impl_goodState : Inj en_impl_goodState := fun a b h => by
 simpa [en_impl_goodState, Prod.ext_iff, and_assoc] using h
noncomputable def A_sc_anyMap (a : Dl1Cur) : Option R := call G 117 [(AV.ptr (Id.l 0) none 0)] [(Id.l 0, bl (cl1Cur a))]
noncomputable def A_spec_gCan (a : DBoard) (b : DState) (c d : Int) : Option R := call G 39 [(.agg (cBoard a)), (.agg (cState b)), (I c), (I d)] []
def en_spec_gCan : Bool → R := fun (a : Bool) => (B a, [])
theorem inj_spec_gCan : Inj en_spec_gCan := fun a b h => by
 first | (simpa [en_spec_gCan, Prod.ext_iff, and_assoc] using h) | (obtain _ := a; obtain _ := b; simp [en_spec_gCan] at h ⊢; simp_all; done) | (obtain _ := a; obtain _ := b; simp [en_spec_gCan] at h; obtain ⟨h1, h2⟩ := h; have h3 := List.append_inj h2.2.2 h1.2.1.1; simp_all) | (obtain _ := a; obtain _ := b; simp [en_spec_gCan] at h; obtain ⟨h1, h2⟩ := h; have h3 := List.append_inj h2.2 h1.1; simp_all)
noncomputable def A_sc_crew (a : Dl1Cur) (b : DState) : Option R := call G 21 [(AV.ptr (Id.l 0) none 0), (.agg (cState b))] [(Id.l 0, bl (cl1Cur a))]
noncomputable def A_spec_gUnits (b : DBoard) (c : DState) (a : List Int) : Option R := call G 27 [(.agg (cBoard b)), (.agg (cState c)), (slc cI a)] []
def en_spec_gUnits : Bool → R := fun (a : Bool) => (B a, [])
theorem inj_spec_gUnits : Inj en_spec_gUnits := fun a b h => by
 first | (simpa [en_spec_gUnits, Prod.ext_iff, and_assoc] using h) | (obtain _ := a; obtain _ := b; simp [en_spec_gUnits] at h ⊢; simp_all; done) | (obtain _ := a; obtain _ := b; simp [en_spec_gUnits] at h; obtain ⟨h1, h2⟩ := h; have h3 := List.append_inj h2.2.2 h1.2.1.1; simp_all) | (obtain _ := a; obtain _ := b; simp [en_spec_gUnits] at h; obtain ⟨h1, h2⟩ := h; have h3 := List.append_inj h2.2 h1.1; simp_all)
noncomputable def A_spec_zSources (b : DBoard) (c : DState) (a d : Int) : Option R := call G 113 [(.agg (cBoard b)), (.agg (cState c)), (I a), (I d)] []
def en_spec_zSources : List Int → R := fun (a : List Int) => (slc cI a, [])
theorem inj_spec_zSources : Inj en_spec_zSources := fun a b h => by
 simpa [en_spec_zSources, Prod.ext_iff, and_assoc] using h
noncomputable def A_spec_l1Rising (c : List Int) (a b : Int) : Option R := call G 58 [(slc cI c), (I a), (I b)] []
def en_spec_l1Rising : Bool → R := fun (a : Bool) => (B a, [])
theorem inj_spec_l1Rising : Inj en_spec_l1Rising := fun a b h => by
 simpa [en_spec_l1Rising, Prod.ext_iff, and_assoc] using h
noncomputable def A_impl_unitsAt (a : DState) (b : Int) : Option R := call G 77 [(.agg (cState a)), (I b)] []
def en_impl_unitsAt : List Int → R := fun (a : List Int) => (slc cI a, [])
theorem inj_impl_unitsAt : Inj en_impl_unitsAt := fun a b h => by
 first | (simpa [en_impl_unitsAt, Prod.ext_iff, and_assoc] using h) | (obtain _ := a; obtain _ := b; simp [en_impl_unitsAt] at h ⊢; simp_all; done) | (obtain _ := a; obtain _ := b; simp [en_impl_unitsAt] at h; obtain ⟨h1, h2⟩ := h; have h3 := List.append_inj h2.2.2 h1.2.1.1; simp_all) | (obtain _ := a; obtain _ := b; simp [en_impl_unitsAt] at h; obtain ⟨h1, h2⟩ := h; have h3 := List.append_inj h2.2 h1.1; simp_all)
noncomputable def A_spec_hDistance (a b : DHex) : Option R := call G 109 [(.agg (cHex a)), (.agg (cHex b))] []
def en_spec_hDistance : Int → R := fun (a : Int) => (I a, [])
theorem inj_spec_hDistance : Inj en_spec_hDistance := fun a b h => by
 first | (simpa [en_spec_hDistance, Prod.ext_iff, and_assoc] using h) | (obtain _ := a; obtain _ := b; simp [en_spec_hDistance] at h ⊢; simp_all; done) | (obtain _ := a; obtain _ := b; simp [en_spec_hDistance] at h; obtain ⟨h1, h2⟩ := h; have h3 := List.append_inj h2.2.2 h1.2.1.1; simp_all) | (obtain _ := a; obtain _ := b; simp [en_spec_hDistance] at h; obtain ⟨h1, h2⟩ := h; have h3 := List.append_inj h2.2 h1.1; simp_all)
noncomputable def A_spec_gRoom (b : DBoard) (c : DState) (a d : Int) : Option R := call G 73 [(.agg (cBoard b)), (.agg (cState c)), (I a), (I d)] []
def en_spec_gRoom : Bool → R := fun (a : Bool) => (B a, [])
theorem inj_spec_gRoom : Inj en_spec_gRoom := fun a b h => by
 first | (simpa [en_spec_gRoom, Prod.ext_iff, and_assoc] using h) | (obtain _ := a; obtain _ := b; simp [en_spec_gRoom] at h ⊢; simp_all; done) | (obtain _ := a; obtain _ := b; simp [en_spec_gRoom] at h; obtain ⟨h1, h2⟩ := h; have h3 := List.append_inj h2.2.2 h1.2.1.1; simp_all) | (obtain _ := a; obtain _ := b; simp [en_spec_gRoom] at h; obtain ⟨h1, h2⟩ := h; have h3 := List.append_inj h2.2 h1.1; simp_all)
noncomputable def A_impl_isEdge (b : DMap) (a : Int) : Option R := call G 97 [(.agg (cMap b)), (I a)] []
def en_impl_isEdge : Bool → R := fun (a : Bool) => (B a, [])
theorem inj_impl_isEdge : Inj en_impl_isEdge := fun a b h => by
 simpa [en_impl_isEdge, Prod.ext_iff, and_assoc] using h
noncomputable def A_impl_IsBoard (a : DBoard) : Option R := call G 31 [(.agg (cBoard a))] []
def en_impl_IsBoard : Bool → R := fun (a : Bool) => (B a, [])
theorem inj_impl_IsBoard : Inj en_impl_IsBoard := fun a b h => by
 simpa [en_impl_IsBoard, Prod.ext_iff, and_assoc] using h
noncomputable def A_impl_hasUnit (a : DBoard) (b : DState) (c : Int) : Option R := call G 68 [(.agg (cBoard a)), (.agg (cState b)), (I c)] []
def en_impl_hasUnit : Bool → R := fun (a : Bool) => (B a, [])
theorem inj_impl_hasUnit : Inj en_impl_hasUnit := fun a b h => by
 simpa [en_impl_hasUnit, Prod.ext_iff, and_assoc] using h
noncomputable def A_impl_weatherCost (a : Int) (b : Bool) : Option R := call G 101 [(I a), (B b)] []
def en_impl_weatherCost : Int → R := fun (a : Int) => (I a, [])
theorem inj_impl_weatherCost : Inj en_impl_weatherCost := fun a b h => by
 simpa [en_impl_weatherCost, Prod.ext_iff, and_assoc] using h
noncomputable def A_impl_fits (a : DBoard) (b : DState) : Option R := call G 51 [(.agg (cBoard a)), (.agg (cState b))] []
def en_impl_fits : Bool → R := fun (a : Bool) => (B a, [])
theorem inj_impl_fits : Inj en_impl_fits := fun a b h => by
 simpa [en_impl_fits, Prod.ext_iff, and_assoc] using h
noncomputable def A_sc_among (b : Dl1Cur) (a : List Int) : Option R := call G 48 [(AV.ptr (Id.l 0) none 0), (slc cI a)] [(Id.l 0, bl (cl1Cur b))]
def en_sc_among : Int × Dl1Cur → R := fun (a : Int × Dl1Cur) => (I a.fst, [(Id.l 0, bl (cl1Cur a.snd))])
theorem inj_sc_among : Inj en_sc_among := fun a b h => by
 simpa [en_sc_among, Prod.ext_iff, and_assoc] using h
noncomputable def A_spec_csWeather (a : Int) (b : Bool) : Option R := call G 104 [(I a), (B b)] []
def en_spec_csWeather : Int → R := fun (a : Int) => (I a, [])
theorem inj_spec_csWeather : Inj en_spec_csWeather := fun a b h => by
 simpa [en_spec_csWeather, Prod.ext_iff, and_assoc] using h
noncomputable def A_impl_isSide (a : Int) : Option R := call G 98 [(I a)] []
def en_impl_isSide : Bool → R := fun (a : Bool) => (B a, [])
theorem inj_impl_isSide : Inj en_impl_isSide := fun a b h => by
 simpa [en_impl_isSide, Prod.ext_iff, and_assoc] using h
noncomputable def A_sc_place (a : Dl1Cur) (b : DMap) : Option R := call G 22 [(AV.ptr (Id.l 0) none 0), (.agg (cMap b))] [(Id.l 0, bl (cl1Cur a))]
def en_sc_place : Int × Dl1Cur → R := fun (a : Int × Dl1Cur) => (I a.fst, [(Id.l 0, bl (cl1Cur a.snd))])
theorem inj_sc_place : Inj en_sc_place := fun a b h => by
 simpa [en_sc_place, Prod.ext_iff, and_assoc] using h
noncomputable def A_sc_mapOf (b : Dl1Cur) (a : Int) : Option R := call G 115 [(AV.ptr (Id.l 0) none 0), (I a)] [(Id.l 0, bl (cl1Cur b))]
def en_sc_mapOf : DMap × Dl1Cur → R := fun (a : DMap × Dl1Cur) => (AV.agg [I a.fst.Width, I a.fst.Height, AV.own (Id.r 0 0) none 0 a.fst.Terrain.length a.fst.Terrain.length, AV.own (Id.r 0 1) none 0 a.fst.Rivers.length a.fst.Rivers.length, AV.own (Id.r 0 2) none 0 a.fst.Roads.length a.fst.Roads.length], [(Id.l 0, bl (cl1Cur a.snd)), (Id.r 0 0, some (rowB true false 1 cI a.fst.Terrain)), (Id.r 0 1, some (rowB true false 1 cI a.fst.Rivers)), (Id.r 0 2, some (rowB true false 1 cI a.fst.Roads))])
theorem inj_sc_mapOf : Inj en_sc_mapOf := fun a b h => by
 first | (simpa [en_sc_mapOf, Prod.ext_iff, and_assoc] using h) | (obtain ⟨⟨_, _, _, _, _⟩, _⟩ := a; obtain ⟨⟨_, _, _, _, _⟩, _⟩ := b; simp [en_sc_mapOf] at h ⊢; simp_all; done) | (obtain ⟨⟨_, _, _, _, _⟩, _⟩ := a; obtain ⟨⟨_, _, _, _, _⟩, _⟩ := b; simp [en_sc_mapOf] at h; obtain ⟨h1, h2⟩ := h; have h3 := List.append_inj h2.2.2 h1.2.1.1; simp_all) | (obtain ⟨⟨_, _, _, _, _⟩, _⟩ := a; obtain ⟨⟨_, _, _, _, _⟩, _⟩ := b; simp [en_sc_mapOf] at h; obtain ⟨h1, h2⟩ := h; have h3 := List.append_inj h2.2 h1.1; simp_all)
noncomputable def A_spec_l1Abs (a : Int) : Option R := call G 131 [(I a)] []
def en_spec_l1Abs : Int → R := fun (a : Int) => (I a, [])
theorem inj_spec_l1Abs : Inj en_spec_l1Abs := fun a b h => by
 first | (simpa [en_spec_l1Abs, Prod.ext_iff, and_assoc] using h) | (obtain _ := a; obtain _ := b; simp [en_spec_l1Abs] at h ⊢; simp_all; done) | (obtain _ := a; obtain _ := b; simp [en_spec_l1Abs] at h; obtain ⟨h1, h2⟩ := h; have h3 := List.append_inj h2.2.2 h1.2.1.1; simp_all) | (obtain _ := a; obtain _ := b; simp [en_spec_l1Abs] at h; obtain ⟨h1, h2⟩ := h; have h3 := List.append_inj h2.2 h1.1; simp_all)
noncomputable def A_impl_IsRules (a : DRules) : Option R := call G 60 [(.agg (cRules a))] []
def en_impl_IsRules : Bool → R := fun (a : Bool) => (B a, [])
theorem inj_impl_IsRules : Inj en_impl_IsRules := fun a b h => by
 simpa [en_impl_IsRules, Prod.ext_iff, and_assoc] using h
noncomputable def A_impl_IsMap (a : DMap) : Option R := call G 61 [(.agg (cMap a))] []
def en_impl_IsMap : Bool → R := fun (a : Bool) => (B a, [])
theorem inj_impl_IsMap : Inj en_impl_IsMap := fun a b h => by
 simpa [en_impl_IsMap, Prod.ext_iff, and_assoc] using h
noncomputable def A_cf_impl_IsBoard_1 (a : DBoard) (b : List Int) : Option R := call G 53 [(slc cI b), (.clo 62 [(AV.ptr (Id.l 0) none 0)])] [(Id.l 0, bl (cBoard a))]
def en_cf_impl_IsBoard_1 : Bool × DBoard → R := fun (a : Bool × DBoard) => (B a.fst, [(Id.l 0, bl (cBoard a.snd))])
theorem inj_cf_impl_IsBoard_1 : Inj en_cf_impl_IsBoard_1 := fun a b h => by
 simpa [en_cf_impl_IsBoard_1, Prod.ext_iff, and_assoc] using h
noncomputable def A_slices_Contains_int (a : List Int) (b : Int) : Option R := call G 100 [(slc cI a), (I b)] []
def en_slices_Contains_int : Bool → R := fun (a : Bool) => (B a, [])
theorem inj_slices_Contains_int : Inj en_slices_Contains_int := fun a b h => by
 simpa [en_slices_Contains_int, Prod.ext_iff, and_assoc] using h
noncomputable def A_spec_bTerrain (a : DBoard) (b : Int) : Option R := call G 112 [(.agg (cBoard a)), (I b)] []
def en_spec_bTerrain : DTerrain → R := fun (a : DTerrain) => (AV.agg (cTerrain a), [])
theorem inj_spec_bTerrain : Inj en_spec_bTerrain := fun a b h => by
 simpa [en_spec_bTerrain, Prod.ext_iff, and_assoc] using h
noncomputable def A_spec_rName (a : ByteArray) : Option R := call G 136 [(S a)] []
def en_spec_rName : Bool → R := fun (a : Bool) => (B a, [])
theorem inj_spec_rName : Inj en_spec_rName := fun a b h => by
 simpa [en_spec_rName, Prod.ext_iff, and_assoc] using h
noncomputable def A_spec_rTerrain (b : List DTerrain) (a : ByteArray) : Option R := call G 137 [(slc cTerrain b), (S a)] []
def en_spec_rTerrain : Int → R := fun (a : Int) => (I a, [])
theorem inj_spec_rTerrain : Inj en_spec_rTerrain := fun a b h => by
 simpa [en_spec_rTerrain, Prod.ext_iff, and_assoc] using h
noncomputable def A_impl_goodUnit (a : DBoard) (b : DUnit) : Option R := call G 63 [(.agg (cBoard a)), (.agg (cUnit b))] []
def en_impl_goodUnit : Bool → R := fun (a : Bool) => (B a, [])
theorem inj_impl_goodUnit : Inj en_impl_goodUnit := fun a b h => by
 simpa [en_impl_goodUnit, Prod.ext_iff, and_assoc] using h
noncomputable def A_spec_cStep (c : DBoard) (b d e a : Int) : Option R := call G 72 [(.agg (cBoard c)), (I b), (I d), (I e), (I a)] []
def en_spec_cStep : Int → R := fun (a : Int) => (I a, [])
theorem inj_spec_cStep : Inj en_spec_cStep := fun a b h => by
 simpa [en_spec_cStep, Prod.ext_iff, and_assoc] using h
noncomputable def A_spec_zExerts (a : DBoard) (b : DState) (c d : Int) : Option R := call G 133 [(.agg (cBoard a)), (.agg (cState b)), (I c), (I d)] []
def en_spec_zExerts : Bool → R := fun (a : Bool) => (B a, [])
theorem inj_spec_zExerts : Inj en_spec_zExerts := fun a b h => by
 simpa [en_spec_zExerts, Prod.ext_iff, and_assoc] using h
noncomputable def A_xf_impl_IsBoard_1 (a : DBoard) (b : List Int) : Option R := call G 89 [(slc cI b), (.clo 62 [(AV.ptr (Id.l 0) none 0)])] [(Id.l 0, bl (cBoard a))]
def en_xf_impl_IsBoard_1 : Int × DBoard → R := fun (a : Int × DBoard) => (I a.fst, [(Id.l 0, bl (cBoard a.snd))])
theorem inj_xf_impl_IsBoard_1 : Inj en_xf_impl_IsBoard_1 := fun a b h => by
 simpa [en_xf_impl_IsBoard_1, Prod.ext_iff, and_assoc] using h
noncomputable def A_slices_Index_int (a : List Int) (b : Int) : Option R := call G 127 [(slc cI a), (I b)] []
def en_slices_Index_int : Int → R := fun (a : Int) => (I a, [])
theorem inj_slices_Index_int : Inj en_slices_Index_int := fun a b h => by
 simpa [en_slices_Index_int, Prod.ext_iff, and_assoc] using h
noncomputable def A_spec_rKind (b : List DKind) (a : ByteArray) : Option R := call G 138 [(slc cKind b), (S a)] []
def en_spec_rKind : Int → R := fun (a : Int) => (I a, [])
theorem inj_spec_rKind : Inj en_spec_rKind := fun a b h => by
 simpa [en_spec_rKind, Prod.ext_iff, and_assoc] using h
noncomputable def A_impl_IsBoard_1 (a : DBoard) (b : Int) : Option R := call G 62 [(I b), (AV.ptr (Id.l 0) none 0)] [(Id.l 0, bl (cBoard a))]
def en_impl_IsBoard_1 : Bool × DBoard → R := fun (a : Bool × DBoard) => (B a.fst, [(Id.l 0, bl (cBoard a.snd))])
theorem inj_impl_IsBoard_1 : Inj en_impl_IsBoard_1 := fun a b h => by
 simpa [en_impl_IsBoard_1, Prod.ext_iff, and_assoc] using h
noncomputable def A_sc_rules (a : Dl1Cur) : Option R := call G 114 [(AV.ptr (Id.l 0) none 0)] [(Id.l 0, bl (cl1Cur a))]
def en_sc_rules : (DRules × List DKind) × Dl1Cur → R := fun (a : (DRules × List DKind) × Dl1Cur) => (AV.agg [AV.own (Id.r 0 0) none 0 a.fst.fst.Terrains.length a.fst.fst.Terrains.length, AV.own (Id.r 0 1) none 0 a.fst.fst.Kinds.length (a.fst.fst.Kinds.length + a.fst.snd.length), I a.fst.fst.Stack, I a.fst.fst.River, I a.fst.fst.Road, I a.fst.fst.Supply, I a.fst.fst.Turns], [(Id.l 0, bl (cl1Cur a.snd)), (Id.r 0 0, some (rowB true true 5 cTerrainN a.fst.fst.Terrains)), (Id.r 0 1, some (rowB true false 6 cKind (a.fst.fst.Kinds ++ a.fst.snd)))])
theorem inj_sc_rules : Inj en_sc_rules := fun a b h => by
 first | (simpa [en_sc_rules, Prod.ext_iff, and_assoc] using h) | (obtain ⟨⟨⟨_, _, _, _, _, _, _⟩, _⟩, _⟩ := a; obtain ⟨⟨⟨_, _, _, _, _, _, _⟩, _⟩, _⟩ := b; simp [en_sc_rules] at h ⊢; simp_all; done) | (obtain ⟨⟨⟨_, _, _, _, _, _, _⟩, _⟩, _⟩ := a; obtain ⟨⟨⟨_, _, _, _, _, _, _⟩, _⟩, _⟩ := b; simp [en_sc_rules] at h; obtain ⟨h1, h2⟩ := h; have h3 := List.append_inj h2.2.2 h1.2.1.1; simp_all) | (obtain ⟨⟨⟨_, _, _, _, _, _, _⟩, _⟩, _⟩ := a; obtain ⟨⟨⟨_, _, _, _, _, _, _⟩, _⟩, _⟩ := b; simp [en_sc_rules] at h; obtain ⟨h1, h2⟩ := h; have h3 := List.append_inj h2.2 h1.1; simp_all)
noncomputable def A_sc_anyRules (a : Dl1Cur) : Option R := call G 116 [(AV.ptr (Id.l 0) none 0)] [(Id.l 0, bl (cl1Cur a))]
noncomputable def A_spec_gAdvance (b : DBoard) (c : DState) (a : List Int) (d : Int) : Option R := call G 30 [(.agg (cBoard b)), (.agg (cState c)), (slc cI a), (I d)] []
def en_spec_gAdvance : DState × Int → R := fun (a : DState × Int) => (AV.tup [AV.agg (cState a.fst), I a.snd], [])
theorem inj_spec_gAdvance : Inj en_spec_gAdvance := fun a b h => by
 first | (simpa [en_spec_gAdvance, Prod.ext_iff, and_assoc] using h) | (obtain ⟨⟨_, _, _⟩, _⟩ := a; obtain ⟨⟨_, _, _⟩, _⟩ := b; simp [en_spec_gAdvance] at h ⊢; simp_all; done) | (obtain ⟨⟨_, _, _⟩, _⟩ := a; obtain ⟨⟨_, _, _⟩, _⟩ := b; simp [en_spec_gAdvance] at h; obtain ⟨h1, h2⟩ := h; have h3 := List.append_inj h2.2.2 h1.2.1.1; simp_all) | (obtain ⟨⟨_, _, _⟩, _⟩ := a; obtain ⟨⟨_, _, _⟩, _⟩ := b; simp [en_spec_gAdvance] at h; obtain ⟨h1, h2⟩ := h; have h3 := List.append_inj h2.2 h1.1; simp_all)
noncomputable def A_spec_mEdges (a : DMap) (b : List Int) : Option R := call G 139 [(.agg (cMap a)), (slc cI b)] []
def en_spec_mEdges : Bool → R := fun (a : Bool) => (B a, [])
theorem inj_spec_mEdges : Inj en_spec_mEdges := fun a b h => by
 simpa [en_spec_mEdges, Prod.ext_iff, and_assoc] using h
noncomputable def A_sc_edges (a : Dl1Cur) (b : DMap) : Option R := call G 134 [(AV.ptr (Id.l 0) none 0), (.agg (cMap b))] [(Id.l 0, bl (cl1Cur a))]
noncomputable def A_impl_goodTerrain (b : DTerrain) (a : Int) : Option R := call G 93 [(.agg (cTerrain b)), (I a)] []
def en_impl_goodTerrain : Bool → R := fun (a : Bool) => (B a, [])
theorem inj_impl_goodTerrain : Inj en_impl_goodTerrain := fun a b h => by
 simpa [en_impl_goodTerrain, Prod.ext_iff, and_assoc] using h
noncomputable def A_spec_bGood (a : DBoard) : Option R := call G 91 [(.agg (cBoard a))] []
def en_spec_bGood : Bool → R := fun (a : Bool) => (B a, [])
theorem inj_spec_bGood : Inj en_spec_bGood := fun a b h => by
 simpa [en_spec_bGood, Prod.ext_iff, and_assoc] using h
noncomputable def A_impl_terrainAt (a : DBoard) (b : Int) : Option R := call G 110 [(.agg (cBoard a)), (I b)] []
def en_impl_terrainAt : DTerrain → R := fun (a : DTerrain) => (AV.agg (cTerrain a), [])
theorem inj_impl_terrainAt : Inj en_impl_terrainAt := fun a b h => by
 simpa [en_impl_terrainAt, Prod.ext_iff, and_assoc] using h
noncomputable def A_spec_mRiver (a : DMap) (b c : Int) : Option R := call G 105 [(.agg (cMap a)), (I b), (I c)] []
def en_spec_mRiver : Bool → R := fun (a : Bool) => (B a, [])
theorem inj_spec_mRiver : Inj en_spec_mRiver := fun a b h => by
 simpa [en_spec_mRiver, Prod.ext_iff, and_assoc] using h
noncomputable def A_impl_terrainIndex (a : List DTerrain) (b : ByteArray) : Option R := call G 94 [(slc cTerrain a), (S b)] []
def en_impl_terrainIndex : Int → R := fun (a : Int) => (I a, [])
theorem inj_impl_terrainIndex : Inj en_impl_terrainIndex := fun a b h => by
 simpa [en_impl_terrainIndex, Prod.ext_iff, and_assoc] using h
noncomputable def A_sc_of (b : Dl1Cur) (a : List ByteArray) : Option R := call G 135 [(AV.ptr (Id.l 0) none 0), (slc cS a)] [(Id.l 0, bl (cl1Cur b))]
def en_sc_of : ByteArray × Dl1Cur → R := fun (a : ByteArray × Dl1Cur) => (S a.fst, [(Id.l 0, bl (cl1Cur a.snd))])
theorem inj_sc_of : Inj en_sc_of := fun a b h => by
 simpa [en_sc_of, Prod.ext_iff, and_assoc] using h
def en_sc_close : (DBoard × DState) × Dl1Cur → R := fun (a : (DBoard × DState) × Dl1Cur) => (AV.tup [AV.agg (cBoard a.fst.fst), AV.agg (cState a.fst.snd)], [(Id.l 0, bl (cl1Cur a.snd))])
theorem inj_sc_close : Inj en_sc_close := fun a b h => by
 simpa [en_sc_close, Prod.ext_iff, and_assoc] using h
noncomputable def A_spec_fDo (a : DState) (b : List DAttempt) : Option R := call G 59 [(.agg (cState a)), (slc cAttempt b)] []
def en_spec_fDo : DState → R := fun (a : DState) => (AV.agg [I a.Turn, I a.Weather, AV.own (Id.r 0 0) none 0 a.Units.length a.Units.length], [(Id.r 0 0, some (rowB true false 4 cUnit a.Units))])
theorem inj_spec_fDo : Inj en_spec_fDo := fun a b h => by
 first | (simpa [en_spec_fDo, Prod.ext_iff, and_assoc] using h) | (obtain ⟨_, _, _⟩ := a; obtain ⟨_, _, _⟩ := b; simp [en_spec_fDo] at h ⊢; simp_all; done) | (obtain ⟨_, _, _⟩ := a; obtain ⟨_, _, _⟩ := b; simp [en_spec_fDo] at h; obtain ⟨h1, h2⟩ := h; have h3 := List.append_inj h2.2.2 h1.2.1.1; simp_all) | (obtain ⟨_, _, _⟩ := a; obtain ⟨_, _, _⟩ := b; simp [en_spec_fDo] at h; obtain ⟨h1, h2⟩ := h; have h3 := List.append_inj h2.2 h1.1; simp_all)
noncomputable def A_cf_impl_goodTerrain_1 (a : List Int) : Option R := call G 53 [(slc cI a), (.clo 122 [])] []
def en_cf_impl_goodTerrain_1 : Bool → R := fun (a : Bool) => (B a, [])
theorem inj_cf_impl_goodTerrain_1 : Inj en_cf_impl_goodTerrain_1 := fun a b h => by
 simpa [en_cf_impl_goodTerrain_1, Prod.ext_iff, and_assoc] using h
noncomputable def A_spec_mGood (a : DMap) : Option R := call G 119 [(.agg (cMap a))] []
def en_spec_mGood : Bool → R := fun (a : Bool) => (B a, [])
theorem inj_spec_mGood : Inj en_spec_mGood := fun a b h => by
 simpa [en_spec_mGood, Prod.ext_iff, and_assoc] using h
noncomputable def A_cf_impl_areOnMap_1 (a : DBoard) (b : DState) (c : List Int) : Option R := call G 53 [(slc cI c), (.clo 54 [(AV.ptr (Id.l 0) none 0), (AV.ptr (Id.l 1) none 0)])] [(Id.l 0, bl (cBoard a)), (Id.l 1, bl (cState b))]
def en_cf_impl_areOnMap_1 : Bool × DBoard × DState → R := fun (a : Bool × DBoard × DState) => (B a.fst, [(Id.l 0, bl (cBoard a.snd.fst)), (Id.l 1, bl (cState a.snd.snd))])
theorem inj_cf_impl_areOnMap_1 : Inj en_cf_impl_areOnMap_1 := fun a b h => by
 first | (simpa [en_cf_impl_areOnMap_1, Prod.ext_iff, and_assoc] using h) | (obtain ⟨_, ⟨⟨⟨_, _, _, _, _, _, _⟩, ⟨_, _, _, _, _⟩⟩, ⟨_, _, _⟩⟩⟩ := a; obtain ⟨_, ⟨⟨⟨_, _, _, _, _, _, _⟩, ⟨_, _, _, _, _⟩⟩, ⟨_, _, _⟩⟩⟩ := b; simp [en_cf_impl_areOnMap_1] at h ⊢; simp_all; done) | (obtain ⟨_, ⟨⟨⟨_, _, _, _, _, _, _⟩, ⟨_, _, _, _, _⟩⟩, ⟨_, _, _⟩⟩⟩ := a; obtain ⟨_, ⟨⟨⟨_, _, _, _, _, _, _⟩, ⟨_, _, _, _, _⟩⟩, ⟨_, _, _⟩⟩⟩ := b; simp [en_cf_impl_areOnMap_1] at h; obtain ⟨h1, h2⟩ := h; have h3 := List.append_inj h2.2.2 h1.2.1.1; simp_all) | (obtain ⟨_, ⟨⟨⟨_, _, _, _, _, _, _⟩, ⟨_, _, _, _, _⟩⟩, ⟨_, _, _⟩⟩⟩ := a; obtain ⟨_, ⟨⟨⟨_, _, _, _, _, _, _⟩, ⟨_, _, _, _, _⟩⟩, ⟨_, _, _⟩⟩⟩ := b; simp [en_cf_impl_areOnMap_1] at h; obtain ⟨h1, h2⟩ := h; have h3 := List.append_inj h2.2 h1.1; simp_all)
noncomputable def A_spec_l1Most (a b : Int) : Option R := call G 50 [(I a), (I b)] []
def en_spec_l1Most : Int → R := fun (a : Int) => (I a, [])
theorem inj_spec_l1Most : Inj en_spec_l1Most := fun a b h => by
 simpa [en_spec_l1Most, Prod.ext_iff, and_assoc] using h
noncomputable def A_slices_Clone_Unit (s0 : List DUnit) : Option R := call G 90 [(slc cUnit s0)] []
def en_slices_Clone_Unit : List DUnit → R := fun (a : List DUnit) => (AV.own (Id.r 0 0) none 0 a.length a.length, [(Id.r 0 0, some (rowB true false 4 cUnit a))])
theorem inj_slices_Clone_Unit : Inj en_slices_Clone_Unit := fun a b h => by
 first | (simpa [en_slices_Clone_Unit, Prod.ext_iff, and_assoc] using h) | (obtain _ := a; obtain _ := b; simp [en_slices_Clone_Unit] at h ⊢; simp_all; done) | (obtain _ := a; obtain _ := b; simp [en_slices_Clone_Unit] at h; obtain ⟨h1, h2⟩ := h; have h3 := List.append_inj h2.2.2 h1.2.1.1; simp_all) | (obtain _ := a; obtain _ := b; simp [en_slices_Clone_Unit] at h; obtain ⟨h1, h2⟩ := h; have h3 := List.append_inj h2.2 h1.1; simp_all)
noncomputable def A_slices_IndexFunc_Terrain_of_impl_terrainIndex_1 (a : ByteArray) (b : List DTerrain) : Option R := call G 123 [(slc cTerrain b), (.clo 124 [(AV.ptr (Id.l 0) none 0)])] [(Id.l 0, some ⟨false, false, false, 0, [(S a)]⟩)]
def en_slices_IndexFunc_Terrain_of_impl_terrainIndex_1 : Int × ByteArray → R := fun (a : Int × ByteArray) => (I a.fst, [(Id.l 0, bl [S a.snd])])
theorem inj_slices_IndexFunc_Terrain_of_impl_terrainIndex_1 : Inj en_slices_IndexFunc_Terrain_of_impl_terrainIndex_1 := fun a b h => by
 simpa [en_slices_IndexFunc_Terrain_of_impl_terrainIndex_1, Prod.ext_iff, and_assoc] using h
def en_sc_game : (DBoard × DState) × Dl1Cur → R := fun (a : (DBoard × DState) × Dl1Cur) => (AV.tup [AV.agg (cBoard a.fst.fst), AV.agg [I a.fst.snd.Turn, I a.fst.snd.Weather, AV.own (Id.r 0 0) none 0 a.fst.snd.Units.length a.fst.snd.Units.length]], [(Id.l 0, bl (cl1Cur a.snd)), (Id.r 0 0, some (rowB true false 4 cUnit a.fst.snd.Units))])
theorem inj_sc_game : Inj en_sc_game := fun a b h => by
 first | (simpa [en_sc_game, Prod.ext_iff, and_assoc] using h) | (obtain ⟨⟨⟨⟨_, _, _, _, _, _, _⟩, ⟨_, _, _, _, _⟩⟩, ⟨_, _, _⟩⟩, _⟩ := a; obtain ⟨⟨⟨⟨_, _, _, _, _, _, _⟩, ⟨_, _, _, _, _⟩⟩, ⟨_, _, _⟩⟩, _⟩ := b; simp [en_sc_game] at h ⊢; simp_all; done) | (obtain ⟨⟨⟨⟨_, _, _, _, _, _, _⟩, ⟨_, _, _, _, _⟩⟩, ⟨_, _, _⟩⟩, _⟩ := a; obtain ⟨⟨⟨⟨_, _, _, _, _, _, _⟩, ⟨_, _, _, _, _⟩⟩, ⟨_, _, _⟩⟩, _⟩ := b; simp [en_sc_game] at h; obtain ⟨h1, h2⟩ := h; have h3 := List.append_inj h2.2.2 h1.2.1.1; simp_all) | (obtain ⟨⟨⟨⟨_, _, _, _, _, _, _⟩, ⟨_, _, _, _, _⟩⟩, ⟨_, _, _⟩⟩, _⟩ := a; obtain ⟨⟨⟨⟨_, _, _, _, _, _, _⟩, ⟨_, _, _, _, _⟩⟩, ⟨_, _, _⟩⟩, _⟩ := b; simp [en_sc_game] at h; obtain ⟨h1, h2⟩ := h; have h3 := List.append_inj h2.2 h1.1; simp_all)
noncomputable def A_spec_l1Put (a : List Int) (b c d : Nat) (e : Int) : Option R := call G 140 [(.own (Id.l 0) none b c d), (I e)] [(Id.l 0, some (rowB false false 1 cI a))]
def en_spec_l1Put : Nat × List Int → R := fun (a : Nat × List Int) => (AV.own (Id.l 0) none 0 a.fst a.fst, [(Id.l 0, some (rowB false false 1 cI a.snd))])
theorem inj_spec_l1Put : Inj en_spec_l1Put := fun a b h => by
 simpa [en_spec_l1Put, Prod.ext_iff, and_assoc] using h
def en2_spec_l1Put : List Int × List Int → R := fun (a : List Int × List Int) => (AV.own (Id.r 0 0) none 0 a.fst.length a.fst.length, [(Id.l 0, some (rowB false false 1 cI a.snd)), (Id.r 0 0, some (rowB true false 1 cI a.fst))])
theorem inj2_spec_l1Put : Inj en2_spec_l1Put := fun a b h => by
 first | (simpa [en2_spec_l1Put, Prod.ext_iff, and_assoc] using h) | (obtain ⟨_, _⟩ := a; obtain ⟨_, _⟩ := b; simp [en2_spec_l1Put] at h ⊢; simp_all; done) | (obtain ⟨_, _⟩ := a; obtain ⟨_, _⟩ := b; simp [en2_spec_l1Put] at h; obtain ⟨h1, h2⟩ := h; have h3 := List.append_inj h2.2.2 h1.2.1.1; simp_all) | (obtain ⟨_, _⟩ := a; obtain ⟨_, _⟩ := b; simp [en2_spec_l1Put] at h; obtain ⟨h1, h2⟩ := h; have h3 := List.append_inj h2.2 h1.1; simp_all)
noncomputable def cl_spec_l1Put {γ : Type} (ml_0 : List Int) (l0o : Nat) (l0n : Nat) (l0k : Nat) (n1 : Int) (k : Nat × List Int → Option γ) (k' : List Int × List Int → Option γ) : Option γ := cl2 en_spec_l1Put en2_spec_l1Put (call G) 140 [(.own (Id.l 0) none l0o l0n l0k), (I n1)] [(Id.l 0, some (rowB false false 1 cI ml_0))] k k'
theorem k_spec_l1Put {γ : Type} (ml_0 : List Int) (l0o : Nat) (l0n : Nat) (l0k : Nat) (n1 : Int) {v : Nat × List Int} (h : A_spec_l1Put ml_0 l0o l0n l0k n1 = some (en_spec_l1Put v)) (k : Nat × List Int → Option γ) (k' : List Int × List Int → Option γ) : cl_spec_l1Put ml_0 l0o l0n l0k n1 k k' = k v := cl2_a inj_spec_l1Put h k k'
theorem k2_spec_l1Put {γ : Type} (ml_0 : List Int) (l0o : Nat) (l0n : Nat) (l0k : Nat) (n1 : Int) {v : List Int × List Int} (h : A_spec_l1Put ml_0 l0o l0n l0k n1 = some (en2_spec_l1Put v)) (k : Nat × List Int → Option γ) (k' : List Int × List Int → Option γ) : cl_spec_l1Put ml_0 l0o l0n l0k n1 k k' = k' v := cl2_b inj2_spec_l1Put (fun a b e => by simp [en_spec_l1Put, en2_spec_l1Put] at e) h k k'
noncomputable def A_xf_impl_goodTerrain_1 (a : List Int) : Option R := call G 89 [(slc cI a), (.clo 122 [])] []
def en_xf_impl_goodTerrain_1 : Int → R := fun (a : Int) => (I a, [])
theorem inj_xf_impl_goodTerrain_1 : Inj en_xf_impl_goodTerrain_1 := fun a b h => by
 simpa [en_xf_impl_goodTerrain_1, Prod.ext_iff, and_assoc] using h
noncomputable def A_xf_impl_areOnMap_1 (a : DBoard) (b : DState) (c : List Int) : Option R := call G 89 [(slc cI c), (.clo 54 [(AV.ptr (Id.l 0) none 0), (AV.ptr (Id.l 1) none 0)])] [(Id.l 0, bl (cBoard a)), (Id.l 1, bl (cState b))]
def en_xf_impl_areOnMap_1 : Int × DBoard × DState → R := fun (a : Int × DBoard × DState) => (I a.fst, [(Id.l 0, bl (cBoard a.snd.fst)), (Id.l 1, bl (cState a.snd.snd))])
theorem inj_xf_impl_areOnMap_1 : Inj en_xf_impl_areOnMap_1 := fun a b h => by
 first | (simpa [en_xf_impl_areOnMap_1, Prod.ext_iff, and_assoc] using h) | (obtain ⟨_, ⟨⟨⟨_, _, _, _, _, _, _⟩, ⟨_, _, _, _, _⟩⟩, ⟨_, _, _⟩⟩⟩ := a; obtain ⟨_, ⟨⟨⟨_, _, _, _, _, _, _⟩, ⟨_, _, _, _, _⟩⟩, ⟨_, _, _⟩⟩⟩ := b; simp [en_xf_impl_areOnMap_1] at h ⊢; simp_all; done) | (obtain ⟨_, ⟨⟨⟨_, _, _, _, _, _, _⟩, ⟨_, _, _, _, _⟩⟩, ⟨_, _, _⟩⟩⟩ := a; obtain ⟨_, ⟨⟨⟨_, _, _, _, _, _, _⟩, ⟨_, _, _, _, _⟩⟩, ⟨_, _, _⟩⟩⟩ := b; simp [en_xf_impl_areOnMap_1] at h; obtain ⟨h1, h2⟩ := h; have h3 := List.append_inj h2.2.2 h1.2.1.1; simp_all) | (obtain ⟨_, ⟨⟨⟨_, _, _, _, _, _, _⟩, ⟨_, _, _, _, _⟩⟩, ⟨_, _, _⟩⟩⟩ := a; obtain ⟨_, ⟨⟨⟨_, _, _, _, _, _, _⟩, ⟨_, _, _, _, _⟩⟩, ⟨_, _, _⟩⟩⟩ := b; simp [en_xf_impl_areOnMap_1] at h; obtain ⟨h1, h2⟩ := h; have h3 := List.append_inj h2.2 h1.1; simp_all)
noncomputable def A_impl_terrainIndex_1 (a : ByteArray) (b : DTerrain) : Option R := call G 124 [(.agg (cTerrain b)), (AV.ptr (Id.l 0) none 0)] [(Id.l 0, some ⟨false, false, false, 0, [(S a)]⟩)]
def en_impl_terrainIndex_1 : Bool × ByteArray → R := fun (a : Bool × ByteArray) => (B a.fst, [(Id.l 0, bl [S a.snd])])
theorem inj_impl_terrainIndex_1 : Inj en_impl_terrainIndex_1 := fun a b h => by
 simpa [en_impl_terrainIndex_1, Prod.ext_iff, and_assoc] using h
noncomputable def A_impl_goodTerrain_1 (a : Int) : Option R := call G 122 [(I a)] []
def en_impl_goodTerrain_1 : Bool → R := fun (a : Bool) => (B a, [])
theorem inj_impl_goodTerrain_1 : Inj en_impl_goodTerrain_1 := fun a b h => by
 simpa [en_impl_goodTerrain_1, Prod.ext_iff, and_assoc] using h
noncomputable def A_impl_areOnMap_1 (a : DBoard) (b : DState) (c : Int) : Option R := call G 54 [(I c), (AV.ptr (Id.l 0) none 0), (AV.ptr (Id.l 1) none 0)] [(Id.l 0, bl (cBoard a)), (Id.l 1, bl (cState b))]
def en_impl_areOnMap_1 : Bool × DBoard × DState → R := fun (a : Bool × DBoard × DState) => (B a.fst, [(Id.l 0, bl (cBoard a.snd.fst)), (Id.l 1, bl (cState a.snd.snd))])
theorem inj_impl_areOnMap_1 : Inj en_impl_areOnMap_1 := fun a b h => by
 first | (simpa [en_impl_areOnMap_1, Prod.ext_iff, and_assoc] using h) | (obtain ⟨_, ⟨⟨⟨_, _, _, _, _, _, _⟩, ⟨_, _, _, _, _⟩⟩, ⟨_, _, _⟩⟩⟩ := a; obtain ⟨_, ⟨⟨⟨_, _, _, _, _, _, _⟩, ⟨_, _, _, _, _⟩⟩, ⟨_, _, _⟩⟩⟩ := b; simp [en_impl_areOnMap_1] at h ⊢; simp_all; done) | (obtain ⟨_, ⟨⟨⟨_, _, _, _, _, _, _⟩, ⟨_, _, _, _, _⟩⟩, ⟨_, _, _⟩⟩⟩ := a; obtain ⟨_, ⟨⟨⟨_, _, _, _, _, _, _⟩, ⟨_, _, _, _, _⟩⟩, ⟨_, _, _⟩⟩⟩ := b; simp [en_impl_areOnMap_1] at h; obtain ⟨h1, h2⟩ := h; have h3 := List.append_inj h2.2.2 h1.2.1.1; simp_all) | (obtain ⟨_, ⟨⟨⟨_, _, _, _, _, _, _⟩, ⟨_, _, _, _, _⟩⟩, ⟨_, _, _⟩⟩⟩ := a; obtain ⟨_, ⟨⟨⟨_, _, _, _, _, _, _⟩, ⟨_, _, _, _, _⟩⟩, ⟨_, _, _⟩⟩⟩ := b; simp [en_impl_areOnMap_1] at h; obtain ⟨h1, h2⟩ := h; have h3 := List.append_inj h2.2 h1.1; simp_all)
noncomputable def A_spec_gPaths (c : DBoard) (d : DState) (e f a : Int) (b : List Int) : Option R := call G 75 [(.agg (cBoard c)), (.agg (cState d)), (I e), (I f), (I a), (slc cI b)] []
def en_spec_gPaths : List (List Int) → R := fun (a : List (List Int)) => (slc cLI a, [])
theorem inj_spec_gPaths : Inj en_spec_gPaths := fun a b h => by
 first | (simpa [en_spec_gPaths, Prod.ext_iff, and_assoc] using h) | (obtain _ := a; obtain _ := b; simp [en_spec_gPaths] at h ⊢; simp_all; done) | (obtain _ := a; obtain _ := b; simp [en_spec_gPaths] at h; obtain ⟨h1, h2⟩ := h; have h3 := List.append_inj h2.2.2 h1.2.1.1; simp_all) | (obtain _ := a; obtain _ := b; simp [en_spec_gPaths] at h; obtain ⟨h1, h2⟩ := h; have h3 := List.append_inj h2.2 h1.1; simp_all)
noncomputable def A_impl_goodKind (a : DKind) : Option R := call G 95 [(.agg (cKind a))] []
def en_impl_goodKind : Bool → R := fun (a : Bool) => (B a, [])
theorem inj_impl_goodKind : Inj en_impl_goodKind := fun a b h => by
 simpa [en_impl_goodKind, Prod.ext_iff, and_assoc] using h
noncomputable def A_impl_isRetreat (a : DBoard) (b : DState) (c d : Int) : Option R := call G 43 [(.agg (cBoard a)), (.agg (cState b)), (I c), (I d)] []
def en_impl_isRetreat : Bool → R := fun (a : Bool) => (B a, [])
theorem inj_impl_isRetreat : Inj en_impl_isRetreat := fun a b h => by
 first | (simpa [en_impl_isRetreat, Prod.ext_iff, and_assoc] using h) | (obtain _ := a; obtain _ := b; simp [en_impl_isRetreat] at h ⊢; simp_all; done) | (obtain _ := a; obtain _ := b; simp [en_impl_isRetreat] at h; obtain ⟨h1, h2⟩ := h; have h3 := List.append_inj h2.2.2 h1.2.1.1; simp_all) | (obtain _ := a; obtain _ := b; simp [en_impl_isRetreat] at h; obtain ⟨h1, h2⟩ := h; have h3 := List.append_inj h2.2 h1.1; simp_all)
noncomputable def A_spec_l1Own (a : List Int) : Option R := call G 108 [(slc cI a)] []
def en_spec_l1Own : List Int → R := fun (a : List Int) => (AV.own (Id.r 0 0) none 0 a.length a.length, [(Id.r 0 0, some (rowB true false 1 cI a))])
theorem inj_spec_l1Own : Inj en_spec_l1Own := fun a b h => by
 first | (simpa [en_spec_l1Own, Prod.ext_iff, and_assoc] using h) | (obtain _ := a; obtain _ := b; simp [en_spec_l1Own] at h ⊢; simp_all; done) | (obtain _ := a; obtain _ := b; simp [en_spec_l1Own] at h; obtain ⟨h1, h2⟩ := h; have h3 := List.append_inj h2.2.2 h1.2.1.1; simp_all) | (obtain _ := a; obtain _ := b; simp [en_spec_l1Own] at h; obtain ⟨h1, h2⟩ := h; have h3 := List.append_inj h2.2 h1.1; simp_all)
def en_sc_crew : List Int × Dl1Cur → R := fun (a : List Int × Dl1Cur) => (slc cI a.fst, [(Id.l 0, bl (cl1Cur a.snd))])
theorem inj_sc_crew : Inj en_sc_crew := fun a b h => by
 first | (simpa [en_sc_crew, Prod.ext_iff, and_assoc] using h) | (obtain ⟨_, _⟩ := a; obtain ⟨_, _⟩ := b; simp [en_sc_crew] at h ⊢; simp_all; done) | (obtain ⟨_, _⟩ := a; obtain ⟨_, _⟩ := b; simp [en_sc_crew] at h; obtain ⟨h1, h2⟩ := h; have h3 := List.append_inj h2.2.2 h1.2.1.1; simp_all) | (obtain ⟨_, _⟩ := a; obtain ⟨_, _⟩ := b; simp [en_sc_crew] at h; obtain ⟨h1, h2⟩ := h; have h3 := List.append_inj h2.2 h1.1; simp_all)
def en_sc_anyRules : DRules × Dl1Cur → R := fun (a : DRules × Dl1Cur) => (AV.agg (cRules a.fst), [(Id.l 0, bl (cl1Cur a.snd))])
theorem inj_sc_anyRules : Inj en_sc_anyRules := fun a b h => by
 simpa [en_sc_anyRules, Prod.ext_iff, and_assoc] using h
def en_sc_anyMap : DMap × Dl1Cur → R := fun (a : DMap × Dl1Cur) => (AV.agg (cMap a.fst), [(Id.l 0, bl (cl1Cur a.snd))])
theorem inj_sc_anyMap : Inj en_sc_anyMap := fun a b h => by
 simpa [en_sc_anyMap, Prod.ext_iff, and_assoc] using h
def en_sc_edges : List Int × Dl1Cur → R := fun (a : List Int × Dl1Cur) => (AV.own (Id.r 0 0) none 0 a.fst.length a.fst.length, [(Id.l 0, bl (cl1Cur a.snd)), (Id.r 0 0, some (rowB true false 1 cI a.fst))])
theorem inj_sc_edges : Inj en_sc_edges := fun a b h => by
 first | (simpa [en_sc_edges, Prod.ext_iff, and_assoc] using h) | (obtain ⟨_, _⟩ := a; obtain ⟨_, _⟩ := b; simp [en_sc_edges] at h ⊢; simp_all; done) | (obtain ⟨_, _⟩ := a; obtain ⟨_, _⟩ := b; simp [en_sc_edges] at h; obtain ⟨h1, h2⟩ := h; have h3 := List.append_inj h2.2.2 h1.2.1.1; simp_all) | (obtain ⟨_, _⟩ := a; obtain ⟨_, _⟩ := b; simp [en_sc_edges] at h; obtain ⟨h1, h2⟩ := h; have h3 := List.append_inj h2.2 h1.1; simp_all)
end Go.Ev
