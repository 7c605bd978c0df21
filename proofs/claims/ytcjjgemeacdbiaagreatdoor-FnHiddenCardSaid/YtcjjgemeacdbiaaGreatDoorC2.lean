/-
 C2: one of the texts behind a proof of laws.FnHidden: what the functions answer
 Its conditions: none of its own.
-/
import Derived.Test.YtcjjgemeacdbiaaGreatDoorC1
set_option maxRecDepth 100000
set_option linter.unusedVariables false
set_option linter.unusedSectionVars false
set_option linter.unusedSimpArgs false
set_option linter.unnecessarySimpa false
namespace Go.Ev
open Go Go.Proofs
variable [Inhabited Known]
theorem rising_tail {a : Int} {l : List Int} (h : risingB (a :: l) = true) : risingB l = true ∧ ∀ x ∈ l, a < x := by
 induction l generalizing a with
 | nil => exact ⟨rfl, fun x hx => (by cases hx)⟩
 | cons b l ih =>
  unfold risingB at h
  rw [Bool.and_eq_true, decide_eq_true_eq] at h
  refine ⟨h.2, fun x hx => ?_⟩
  rcases List.mem_cons.1 hx with e | hx
  ·omega
  ·have := (ih h.2).2 x hx
   omega
def supB (b : DBoard) (s : DState) (k : Int) (src : List Int) : Bool := (gameB b s && inB 0 ((s.Units.length : Int) - 1) k) && srcB b src
structure SupG (b : DBoard) (s : DState) (k : Int) (src : List Int) (u : DUnit) : Prop where
 g : StateG b s
 q : srcB b src = true
 hu : getI s.Units k = some u
 m : u ∈ s.Units
theorem SupG.of {b : DBoard} {s : DState} {k : Int} {src : List Int} (h : supB b s k src = true) (hn : BoardN b) : ∃ u, SupG b s k src u := by
 unfold supB at h
 rw [Bool.and_eq_true, Bool.and_eq_true, inB_iff] at h
 obtain ⟨⟨hg, h0, h1⟩, hq⟩ := h
 obtain ⟨u, hu⟩ := getI_ex (l := s.Units) h0 (by omega)
 obtain ⟨_, _, hx, _⟩ := getI_some hu
 exact ⟨u, StateG.ofB hg hn, hq, hu, mem_of_get hx⟩
theorem SpreadOk.set {m : DMap} {op : List Bool} {src : List Int} (h : SpreadOk m op src) (i : Nat) (z : Bool) : SpreadOk m (op.set i z) src :=
 ⟨by rw [List.length_set]; exact h.n, h.w, by rw [List.length_set]; exact h.l, fun k hk => by rw [List.length_set]; exact h.s k hk, h.q, h.b⟩
theorem giveUp_at {α : Type} {σ : Store} {c : α → List AV} {e : Nat} (h : COk c e) {id : Id} {fr : Bool} {l : List α} {cap : Nat} (hb : σ.get? id = some (rowB fr false e c l)) : giveUp σ (.own id none 0 l.length cap) = some (slc c l) := by
 have := giveN h (n := l.length) (cap := cap) (Nat.le_refl _) hb
 rwa [List.take_length] at this
theorem haF {α : Type} {c : α → List AV} {e : Nat} (hc : COk c e) {σ : Store} {id : Id} {l r : List α} {cap : Nat} (hb : σ.get? id = some (rowB true false e c (l ++ r))) (hcap : l.length ≤ cap) : handIn false σ (.own id none 0 l.length cap) = some (slc c l, σ.del id, [id]) := by
 simp only [handIn, hb, rowB]
 by_cases hr : ((l ++ r).flatMap c).length = l.length * e
 ·rw [if_pos ⟨trivial, trivial, trivial, hr, hcap⟩]
  have h2 : (l ++ r).flatMap c = l.flatMap c := by
   rw [List.flatMap_append] at hr ⊢
   rw [List.length_append, flat_len hc.len] at hr
   have : (r.flatMap c).length = 0 := by omega
   rw [List.eq_nil_of_length_eq_zero this, List.append_nil]
  simp only [Bool.false_eq_true, if_false, h2]
  rfl
 ·rw [if_neg (fun h => hr h.2.2.2.1), if_pos ⟨trivial, trivial, trivial, trivial, by rw [flat_len hc.len, List.length_append]; exact Nat.mul_le_mul_right _ (Nat.le_add_right _ _), hcap⟩]
  simp only [Bool.false_eq_true, if_false]
  rw [flat_take hc.len, List.take_left']
  ·rfl
  ·rfl
theorem inj_bs2 : Inj fun a : DBoard × DState => AV.tup [AV.agg [slc cTerrain a.fst.Rules.Terrains, slc cKind a.fst.Rules.Kinds, I a.fst.Rules.Stack, I a.fst.Rules.River, I a.fst.Rules.Road, I a.fst.Rules.Supply, I a.fst.Rules.Turns, I a.fst.Map.Width, I a.fst.Map.Height, slc cI a.fst.Map.Terrain, slc cI a.fst.Map.Rivers, slc cI a.fst.Map.Roads], AV.agg [I a.snd.Turn, I a.snd.Weather, slc cUnit a.snd.Units]] := fun a b h => by
 injection h with h
 injection h with h1 h
 injection h with h2 h
 exact Prod.ext (inj_board _ _ h1) (inj_state _ _ h2)
abbrev CloseQ (n : Int) (v : (DBoard × DState) × Dl1Cur) : Prop := BoardN v.1.1 ∧ 1 ≤ v.1.2.Units.length ∧ v.1.2.Units.length ≤ 20 ∧ Cu v.2 n
theorem l_sc_close_L6_1 (b : DBoard) (hb : BoardN b) (a2 a3 a4 a5 a6 a7 a8 s0 s1 tu we : Int) : ∀ (k : Nat) (l : List DUnit) (c : Dl1Cur) (n : Int), 1 ≤ l.length → l.length + k ≤ 20 → Cu c n → n ≤ Far - 1000 - 100 * k →
  ∃ v, L_sc_close_L6_1 l c a2 a3 a4 a5 a6 a7 a8 s0 s1 b tu we 0 l.length l.length k = some (en_sc_close v) ∧ CloseQ (n + 100 * k) v := by
 intro k
 have fin : ∀ (k : Nat) (l : List DUnit) (c : Dl1Cur) (n : Int), 1 ≤ l.length → l.length ≤ 20 → Cu c n → OK (P_sc_close_L6_1 l c a2 a3 a4 a5 a6 a7 a8 s0 s1 b tu we 0 l.length l.length 0) fun r => ∃ v, r = en_sc_close v ∧ CloseQ (n + 100 * k) v := by
  intro k l c n h1 h2 hc
  unfold P_sc_close_L6_1
  rw [if_neg (by simp)]
  exact OK.cast inj_bs2 (a := (b, ⟨tu, we, l⟩)) (gvTup (gvVs_cons rfl (gvVs_cons (gvState' rfl rfl) rfl))) (OK.some ⟨((b, ⟨tu, we, l⟩), c), rfl, hb, h1, h2, hc.to⟩)
 induction k with
 | zero =>
  intro l c n h1 h2 hc hn
  exact okA (e_sc_close_L6_1 _ _ _ _ _ _ _ _ _ _ _ _ _ _ _ _ _ _) (fin 0 l c n h1 (by omega) hc)
 | succ k ih =>
  intro l c n h1 h2 hc hn
  unfold Far at hn
  refine okA (e_sc_close_L6_1 _ _ _ _ _ _ _ _ _ _ _ _ _ _ _ _ _ _) ?_
  have hfin := fin (k + 1) l c n h1 (by omega) hc
  unfold P_sc_close_L6_1 at hfin ⊢
  rw [if_neg (by simp)] at hfin
  have hw : IntKind.wrap .i64 (((k + 1 : Nat) : Int) - 1) = (k : Int) := by rw [wrap_id (by omega) (by omega)]; omega
  rw [if_pos (by simp), hw]
  refine OK.ite (fun h12 => ?_) (fun _ => hfin)
  refine koA inj_sc_pick (o_sc_pick _ _ _ hc (by unfold Far; omega)) fun p hp => ?_
  rw [cast_of inj_spec_mSize (c_spec_mSize _)]
  refine koA inj_sc_pick (o_sc_pick _ _ _ hp.2.2 (by unfold Far; omega)) fun q hq => ?_
  rw [apR_eq rt_cUnit (l := l) (xs := [⟨p.1, 0, q.1, 1⟩]) rfl (Src.row (n := 1) ok_cUnit rfl rfl) rfl rfl (by simp; omega) (by simp; omega) rfl]
  refine OK.cast inj_state (gvState (Nat.le_refl _) rfl) ?_
  rw [List.take_length]
  rw [cast_of inj_spec_sGood (c_spec_sGood _ _ hb (by show (l ++ [_]).length < _; simp; omega))]
  have hx : (l ++ [(⟨p.1, 0, q.1, 1⟩ : DUnit)])[l.length]? = some ⟨p.1, 0, q.1, 1⟩ := by simp
  refine OK.ite (fun _ => ?_) (fun _ => ?_)
  ·rw [oxA_at rt_cUnit (j := l.length) (by rw [wrap_id (by simp <;> omega) (by simp <;> omega)]; simp) (by simp)]
   rw [stF (f := 2) (off := l.length * 4 + 2) (l := l ++ [(⟨p.1, 0, q.1, 1⟩ : DUnit)]) ok_cUnit rfl rfl hx rfl (by omega) rfl (y' := (⟨p.1, 0, -1, 1⟩ : DUnit)) rfl]
   obtain ⟨r, q1, q2⟩ := ih ((l ++ [(⟨p.1, 0, q.1, 1⟩ : DUnit)]).set l.length ⟨p.1, 0, -1, 1⟩) q.2 (n + 100) (by simp) (by simp; omega) hq.2.2.to (by unfold Far; omega)
   rw [List.length_set] at q1
   exact ⟨_, q1, r, rfl, q2.1, q2.2.1, q2.2.2.1, q2.2.2.2.to⟩
  ·obtain ⟨r, q1, q2⟩ := ih (l ++ [(⟨p.1, 0, q.1, 1⟩ : DUnit)]) q.2 (n + 100) (by simp) (by simp; omega) hq.2.2.to (by unfold Far; omega)
   exact ⟨_, q1, r, rfl, q2.1, q2.2.1, q2.2.2.1, q2.2.2.2.to⟩
theorem gvB {σ : Store} {ts : List DTerrain} {ks : List DKind} {a b c d e w h : Int} {ter : List Int} {id : Id} {fr : Bool} (hb : σ.get? id = some (rowB fr false 1 cI ter)) :
  giveUpV σ (.agg [slc cTerrain ts, slc cKind ks, I a, I b, I c, I d, I e, I w, I h, .own id none 0 ter.length ter.length, .emp, .emp]) = some (.agg (cBoard ⟨⟨ts, ks, a, b, c, d, e⟩, ⟨w, h, ter, [], []⟩⟩)) :=
 gvV (gvL_cons rfl (gvL_cons rfl (gvL_cons rfl (gvL_cons rfl (gvL_cons rfl (gvL_cons rfl (gvL_cons rfl (gvL_cons rfl (gvL_cons rfl (gvL_cons (giveUp_at ok_cI hb) (gvL_cons rfl (gvL_cons rfl rfl))))))))))))
theorem gvM {σ : Store} {w h : Int} {ter : List Int} {id : Id} {fr : Bool} (hb : σ.get? id = some (rowB fr false 1 cI ter)) :
  giveUpV σ (.agg [I w, I h, .own id none 0 ter.length ter.length, .emp, .emp]) = some (.agg (cMap ⟨w, h, ter, [], []⟩)) :=
 gvV (gvL_cons rfl (gvL_cons rfl (gvL_cons (giveUp_at ok_cI hb) (gvL_cons rfl (gvL_cons rfl rfl)))))
theorem l_sc_close_L6 (ter : List Int) (hter : ter.length ≤ 100) (ts : List DTerrain) (ks : List DKind) (st ri ro su tn W H : Int) (hr : RulesN ⟨ts, ks, st, ri, ro, su, tn⟩) (a2 a3 a4 a5 a6 a7 a8 s0 s1 tu we : Int) : ∀ (k : Nat) (l : List DUnit) (c : Dl1Cur) (n : Int), 1 ≤ l.length → l.length + k ≤ 20 → Cu c n → n ≤ Far - 1000 - 100 * k →
  ∃ v, L_sc_close_L6 ter l c a2 a3 a4 a5 a6 a7 a8 s0 s1 ts ks st ri ro su tn W H tu we 0 l.length l.length k = some (en_sc_close v) ∧ CloseQ (n + 100 * k) v := by
 intro k
 have hb : BoardN ⟨⟨ts, ks, st, ri, ro, su, tn⟩, ⟨W, H, ter, [], []⟩⟩ := ⟨hr, ⟨by show ter.length < _; omega, by show ([] : List Int).length < _; simp, by show ([] : List Int).length < _; simp⟩⟩
 have fin : ∀ (k : Nat) (l : List DUnit) (c : Dl1Cur) (n : Int), 1 ≤ l.length → l.length ≤ 20 → Cu c n → OK (P_sc_close_L6 ter l c a2 a3 a4 a5 a6 a7 a8 s0 s1 ts ks st ri ro su tn W H tu we 0 l.length l.length 0) fun r => ∃ v, r = en_sc_close v ∧ CloseQ (n + 100 * k) v := by
  intro k l c n h1 h2 hc
  unfold P_sc_close_L6
  rw [if_neg (by simp)]
  exact OK.cast inj_bs2 (a := (⟨⟨ts, ks, st, ri, ro, su, tn⟩, ⟨W, H, ter, [], []⟩⟩, ⟨tu, we, l⟩)) (gvTup (gvVs_cons (gvB rfl) (gvVs_cons (gvState' rfl rfl) rfl))) (OK.some ⟨((⟨⟨ts, ks, st, ri, ro, su, tn⟩, ⟨W, H, ter, [], []⟩⟩, ⟨tu, we, l⟩), c), rfl, hb, h1, h2, hc.to⟩)
 induction k with
 | zero =>
  intro l c n h1 h2 hc hn
  exact okA (e_sc_close_L6 _ _ _ _ _ _ _ _ _ _ _ _ _ _ _ _ _ _ _ _ _ _ _ _ _ _ _) (fin 0 l c n h1 (by omega) hc)
 | succ k ih =>
  intro l c n h1 h2 hc hn
  unfold Far at hn
  refine okA (e_sc_close_L6 _ _ _ _ _ _ _ _ _ _ _ _ _ _ _ _ _ _ _ _ _ _ _ _ _ _ _) ?_
  have hfin := fin (k + 1) l c n h1 (by omega) hc
  unfold P_sc_close_L6 at hfin ⊢
  rw [if_neg (by simp)] at hfin
  have hw : IntKind.wrap .i64 (((k + 1 : Nat) : Int) - 1) = (k : Int) := by rw [wrap_id (by omega) (by omega)]; omega
  rw [if_pos (by simp), hw]
  refine OK.ite (fun h12 => ?_) (fun _ => hfin)
  refine koA inj_sc_pick (o_sc_pick _ _ _ hc (by unfold Far; omega)) fun p hp => ?_
  refine OK.cast inj_map (a := ⟨W, H, ter, [], []⟩) (gvM rfl) ?_
  rw [cast_of inj_spec_mSize (c_spec_mSize _)]
  refine koA inj_sc_pick (o_sc_pick _ _ _ hp.2.2 (by unfold Far; omega)) fun q hq => ?_
  rw [apR_eq rt_cUnit (l := l) (xs := [⟨p.1, 0, q.1, 1⟩]) rfl (Src.row (n := 1) ok_cUnit rfl rfl) rfl rfl (by simp; omega) (by simp; omega) rfl]
  refine OK.cast inj_board (a := ⟨⟨ts, ks, st, ri, ro, su, tn⟩, ⟨W, H, ter, [], []⟩⟩) (gvB rfl) ?_
  refine OK.cast inj_state (gvState (Nat.le_refl _) rfl) ?_
  rw [List.take_length]
  rw [cast_of inj_spec_sGood (c_spec_sGood _ _ hb (by show (l ++ [_]).length < _; simp; omega))]
  have hx : (l ++ [(⟨p.1, 0, q.1, 1⟩ : DUnit)])[l.length]? = some ⟨p.1, 0, q.1, 1⟩ := by simp
  refine OK.ite (fun _ => ?_) (fun _ => ?_)
  ·rw [oxA_at rt_cUnit (j := l.length) (by rw [wrap_id (by simp <;> omega) (by simp <;> omega)]; simp) (by simp)]
   rw [stF (f := 2) (off := l.length * 4 + 2) (l := l ++ [(⟨p.1, 0, q.1, 1⟩ : DUnit)]) ok_cUnit rfl rfl hx rfl (by omega) rfl (y' := (⟨p.1, 0, -1, 1⟩ : DUnit)) rfl]
   obtain ⟨r, q1, q2⟩ := ih ((l ++ [(⟨p.1, 0, q.1, 1⟩ : DUnit)]).set l.length ⟨p.1, 0, -1, 1⟩) q.2 (n + 100) (by simp) (by simp; omega) hq.2.2.to (by unfold Far; omega)
   rw [List.length_set] at q1
   exact ⟨_, q1, r, rfl, q2.1, q2.2.1, q2.2.2.1, q2.2.2.2.to⟩
  ·obtain ⟨r, q1, q2⟩ := ih (l ++ [(⟨p.1, 0, q.1, 1⟩ : DUnit)]) q.2 (n + 100) (by simp) (by simp; omega) hq.2.2.to (by unfold Far; omega)
   exact ⟨_, q1, r, rfl, q2.1, q2.2.1, q2.2.2.1, q2.2.2.2.to⟩
theorem o_sc_close (c : Dl1Cur) (n : Int) (hc : Cu c n) (hn : n ≤ Far - 500000) : ∃ v, A_sc_close c = some (en_sc_close v) ∧ CloseQ (n + 10000) v := by
 refine okA (e_sc_close _) ?_
 unfold Far at hn
 refine koA inj_sc_board (o2_sc_board _ _ hc (by unfold Far; omega)) fun r hr => ?_
 obtain ⟨b, c1⟩ := r
 obtain ⟨⟨hb, hk0⟩, hc1⟩ := hr
 dsimp only at hb hk0 hc1 ⊢
 have far : ∀ (c2 : Dl1Cur) (m : Int), m ≤ n + 3010 → Cu c2 m → OK (cast en_sc_state (A_sc_state c2 b) fun (v : DState × Dl1Cur) => cast en_sc_pick (A_sc_pick v.snd 4) fun (w : Int × Dl1Cur) => L_sc_close_L6_1 v.fst.Units w.snd 0 0 0 0 0 0 0 0 0 b v.fst.Turn v.fst.Weather 0 (List.length v.fst.Units) (List.length v.fst.Units) (IntKind.wrap IntKind.i64 (3 + w.fst))) fun r => ∃ v, r = en_sc_close v ∧ CloseQ (n + 10000) v := by
  intro c2 m hm hc2
  refine koA inj_sc_state (o_sc_state _ _ hk0 hb _ hc2 (by unfold Far; omega)) fun s hs => ?_
  obtain ⟨h2, h8, hc3⟩ := hs
  refine koA inj_sc_pick (o_sc_pick _ _ _ hc3 (by unfold Far; omega)) fun w hw => ?_
  obtain ⟨k, hk⟩ : ∃ k : Nat, 3 + w.1 = k := ⟨(3 + w.1).toNat, by omega⟩
  rw [wrap_id (by omega) (by omega), hk]
  obtain ⟨v, q1, q2⟩ := l_sc_close_L6_1 b hb 0 0 0 0 0 0 0 0 0 s.1.Turn s.1.Weather k s.1.Units w.2 (m + 2000 + 2) (by omega) (by omega) hw.2.2.to (by unfold Far; omega)
  exact ⟨_, q1, v, rfl, q2.1, q2.2.1, q2.2.2.1, q2.2.2.2.to⟩
 rw [cast_of inj_spec_mSize (c_spec_mSize _)]
 refine OK.ite (fun _ => ?_) (fun _ => far c1 _ (by omega) hc1)
 refine koA inj_sc_one (o_sc_one _ _ _ hc1 (by unfold Far; omega)) fun o ho => ?_
 refine OK.ite (fun _ => ?_) (fun _ => far o.2 _ (by omega) ho)
 rw [mkA_z rt_cI (z := 0) (by kernel_rfl) rfl (by omega) (by omega) (by omega)]
 have h9 : (List.replicate (9 : Int).toNat (0 : Int)).length = 9 := by simp
 generalize List.replicate (9 : Int).toNat (0 : Int) = ter at h9 ⊢
 refine OK.cast inj_board (a := ⟨⟨b.Rules.Terrains, b.Rules.Kinds, b.Rules.Stack, b.Rules.River, b.Rules.Road, b.Rules.Supply, b.Rules.Turns⟩, ⟨3, 3, ter, [], []⟩⟩) (gvB rfl) ?_
 have hb2 : BoardN ⟨⟨b.Rules.Terrains, b.Rules.Kinds, b.Rules.Stack, b.Rules.River, b.Rules.Road, b.Rules.Supply, b.Rules.Turns⟩, ⟨3, 3, ter, [], []⟩⟩ := ⟨hb.r, ⟨by show ter.length < _; omega, by show ([] : List Int).length < _; simp, by show ([] : List Int).length < _; simp⟩⟩
 refine koA inj_sc_state (o_sc_state _ ⟨⟨b.Rules.Terrains, b.Rules.Kinds, b.Rules.Stack, b.Rules.River, b.Rules.Road, b.Rules.Supply, b.Rules.Turns⟩, ⟨3, 3, ter, [], []⟩⟩ hk0 hb2 _ ho (by unfold Far; omega)) fun s hs => ?_
 obtain ⟨h2, h8, hc3⟩ := hs
 rw [gd_eq imm_cUnit]
 refine koA inj_sc_pick (o_sc_pick _ _ _ hc3 (by unfold Far; omega)) fun w hw => ?_
 obtain ⟨k, hk⟩ : ∃ k : Nat, 3 + w.1 = k := ⟨(3 + w.1).toNat, by omega⟩
 rw [wrap_id (by omega) (by omega), hk]
 obtain ⟨v, q1, q2⟩ := l_sc_close_L6 ter (by omega) b.Rules.Terrains b.Rules.Kinds b.Rules.Stack b.Rules.River b.Rules.Road b.Rules.Supply b.Rules.Turns 3 3 hb.r 0 0 0 0 0 0 0 0 0 s.1.Turn s.1.Weather k s.1.Units w.2 (n + 6000) (by omega) (by omega) hw.2.2.to (by unfold Far; omega)
 exact ⟨_, q1, v, rfl, q2.1, q2.2.1, q2.2.2.1, q2.2.2.2.to⟩
theorem o_laws_big (x y : KSl) : ∃ v, A_laws_big x y = some (en_laws_big v) ∧ True := by
 refine okA (e_laws_big _ _) ?_
 exact OK.ite (fun _ => OK.some ⟨_, rfl, trivial⟩) (fun _ => OK.some ⟨_, rfl, trivial⟩)
abbrev EdF := Nat → Nat → Option (Nat × Int)
def vv (l : List Int) (k : Nat) : Int := l.getD k (-1)
inductive Wk (F : EdF) (s : Nat) : Int → Nat → Prop where
 | nil : Wk F s 0 s
 | cons (n : Int) (k d t : Nat) (c : Int) : Wk F s n k → d < 6 → F k d = some (t, c) → Wk F s (n + c) t
structure EdOk (F : EdF) (N : Nat) (C : Int) : Prop where
 c0 : 0 ≤ C
 e : ∀ k d t c, F k d = some (t, c) → t < N ∧ 1 ≤ c ∧ c ≤ C
structure Good (F : EdF) (N s : Nat) (l : List Int) : Prop where
 len : l.length = N
 sN : s < N
 src : vv l s = 0
 wk : ∀ k, 0 ≤ vv l k → Wk F s (vv l k) k
 neg : ∀ k, -1 ≤ vv l k
def satE (F : EdF) (l : List Int) (k d : Nat) : Prop := ∀ t c, F k d = some (t, c) → 0 ≤ vv l k → 0 ≤ vv l t ∧ vv l t ≤ vv l k + c
theorem vv_set {l : List Int} {t k : Nat} {z : Int} (ht : t < l.length) : vv (l.set t z) k = if k = t then z else vv l k := by
 unfold vv
 rw [List.getD_eq_getElem?_getD, List.getD_eq_getElem?_getD, List.getElem?_set]
 by_cases h : k = t
 ·subst h
  rw [if_pos rfl, if_pos rfl, if_pos ht]
  rfl
 ·rw [if_neg (fun e => h e.symm), if_neg h]
theorem vv_get {l : List Int} {k : Nat} (h : k < l.length) : l[k]? = some (vv l k) := by
 unfold vv
 rw [List.getD_eq_getElem?_getD, List.getElem?_eq_getElem h]
 rfl
theorem vv_out {l : List Int} {k : Nat} (h : l.length ≤ k) : vv l k = -1 := by
 unfold vv
 rw [List.getD_eq_getElem?_getD, List.getElem?_eq_none h]
 rfl
theorem Good.upd {F : EdF} {N s : Nat} {C : Int} {l : List Int} (ok : EdOk F N C) (g : Good F N s l) {k d t : Nat} {c : Int} (hd : d < 6) (he : F k d = some (t, c)) (hk : 0 ≤ vv l k) (hu : vv l t < 0 ∨ vv l k + c < vv l t) : Good F N s (l.set t (vv l k + c)) := by
 obtain ⟨ht, hc1, hc2⟩ := ok.e k d t c he
 have htl : t < l.length := by rw [g.len]; exact ht
 have hts : s ≠ t := fun e => by
  subst e
  have := g.src
  omega
 refine ⟨by rw [List.length_set]; exact g.len, g.sN, by rw [vv_set htl, if_neg hts]; exact g.src, fun j hj => ?_, fun j => ?_⟩
 ·rw [vv_set htl] at hj ⊢
  by_cases h : j = t
  ·rw [if_pos h, h]; exact .cons _ k d t c (g.wk k hk) hd he
  ·rw [if_neg h] at hj ⊢; exact g.wk j hj
 ·rw [vv_set htl]
  split
  ·omega
  ·exact g.neg j
theorem good_init (F : EdF) {N s : Nat} (hs : s < N) : Good F N s ((List.replicate N (-1)).set s 0) := by
 have hv : ∀ k, vv ((List.replicate N (-1)).set s 0) k = if k = s then 0 else -1 := fun k => by
  rw [vv_set (by simpa using hs)]
  split
  ·rfl
  ·by_cases hk : k < N
   ·unfold vv; rw [List.getD_eq_getElem?_getD, List.getElem?_replicate, if_pos hk]; rfl
   ·exact vv_out (by simp; omega)
 refine ⟨by simp, hs, by rw [hv, if_pos rfl], fun k hk => ?_, fun k => ?_⟩
 ·rw [hv] at hk ⊢
  by_cases h : k = s
  ·rw [if_pos h, h]; exact .nil
  ·rw [if_neg h] at hk; omega
 ·rw [hv]; split <;> omega
abbrev StR := List Int × Bool
def relU (F : EdF) (st : StR) (k d : Nat) : StR := match F k d with
 | none => st
 | some (t, c) => if 0 ≤ vv st.1 k ∧ (vv st.1 t < 0 ∨ vv st.1 k + c < vv st.1 t) then (st.1.set t (vv st.1 k + c), true) else st
def mu (M : Int) (l : List Int) : Int := sumI (fun v => if v < 0 then M else v) l
theorem sum_set {f : Int → Int} : ∀ {l : List Int} {t : Nat} {v z : Int}, l[t]? = some v → sumI f (l.set t z) = sumI f l - f v + f z
 | [], t, v, z, h => by simp at h
 | x :: r, 0, v, z, h => by
  simp at h
  subst h
  rw [List.set_cons_zero]
  unfold sumI
  omega
 | x :: r, t + 1, v, z, h => by
  have := sum_set (f := f) (l := r) (t := t) (v := v) (z := z) (by simpa using h)
  rw [List.set_cons_succ]
  unfold sumI
  omega
def Bd (C : Int) (l : List Int) : Prop := ∀ v ∈ l, v ≤ C * ((l.length : Int) - 1 - (negs l : Int))
theorem Bd.top {C : Int} {l : List Int} (hc : 0 ≤ C) (h : Bd C l) {v : Int} (hv : v ∈ l) : v ≤ C * ((l.length : Int) - 1) := by
 have h1 := h v hv
 have : C * ((l.length : Int) - 1 - (negs l : Int)) ≤ C * ((l.length : Int) - 1) := Int.mul_le_mul_of_nonneg_left (by omega) hc
 omega
theorem Bd.upd {F : EdF} {N s : Nat} {C : Int} {l : List Int} (ok : EdOk F N C) (g : Good F N s l) (hb : Bd C l) {k d t : Nat} {c : Int} (he : F k d = some (t, c)) (hk : 0 ≤ vv l k) (hu : vv l t < 0 ∨ vv l k + c < vv l t) : Bd C (l.set t (vv l k + c)) := by
 obtain ⟨ht, hc1, hc2⟩ := ok.e k d t c he
 have htl : t < l.length := by rw [g.len]; exact ht
 have hkl : k < l.length := by
  by_cases h : k < l.length
  ·exact h
  ·rw [vv_out (by omega)] at hk; omega
 have hn := negs_set (vv_get htl) (vv l k + c) (by omega)
 have hkb := hb _ (mem_of_get (vv_get hkl))
 have htb := hb _ (mem_of_get (vv_get htl))
 intro v hv
 rw [List.length_set]
 have mono : ∀ a b : Int, a ≤ b → C * a ≤ C * b := fun a b h => Int.mul_le_mul_of_nonneg_left h ok.c0
 rcases List.mem_or_eq_of_mem_set hv with hv | hv
 ·have h1 := hb v hv
  have h2 := mono ((l.length : Int) - 1 - (negs l : Int)) ((l.length : Int) - 1 - (negs (l.set t (vv l k + c)) : Int)) (by split at hn <;> omega)
  omega
 ·subst hv
  by_cases h0 : vv l t < 0
  ·rw [if_pos h0] at hn
   have h2 : C * ((l.length : Int) - 1 - (negs (l.set t (vv l k + c)) : Int)) = C * ((l.length : Int) - 1 - (negs l : Int)) + C := by
    rw [show ((l.length : Int) - 1 - (negs (l.set t (vv l k + c)) : Int)) = ((l.length : Int) - 1 - (negs l : Int)) + 1 by omega, Int.mul_add, Int.mul_one]
   omega
  ·rw [if_neg h0] at hn
   have : (negs (l.set t (vv l k + c)) : Int) = (negs l : Int) := by omega
   rw [this]
   rcases hu with hu | hu <;> omega
theorem mu_upd {F : EdF} {N s : Nat} {C : Int} {l : List Int} (ok : EdOk F N C) (g : Good F N s l) (hb : Bd C l) {k d t : Nat} {c : Int} (he : F k d = some (t, c)) (hk : 0 ≤ vv l k) (hu : vv l t < 0 ∨ vv l k + c < vv l t) : mu (C * N + 1) (l.set t (vv l k + c)) < mu (C * N + 1) l := by
 obtain ⟨ht, hc1, hc2⟩ := ok.e k d t c he
 have htl : t < l.length := by rw [g.len]; exact ht
 have h2 := (hb.upd ok g he hk hu).top ok.c0 (v := vv l k + c) (List.mem_of_getElem? (by rw [List.getElem?_set_self htl]))
 rw [List.length_set, g.len] at h2
 have h3 : C * ((N : Int) - 1) ≤ C * N := Int.mul_le_mul_of_nonneg_left (by omega) ok.c0
 unfold mu
 rw [sum_set (vv_get htl), if_neg (show ¬ vv l k + c < 0 by omega)]
 split
 ·omega
 ·rcases hu with hu | hu <;> omega
structure PI (F : EdF) (N s : Nat) (C : Int) (l0 : List Int) (seen : Nat → Nat → Prop) (st : StR) : Prop where
 g : Good F N s st.1
 b : Bd C st.1
 m : mu (C * N + 1) st.1 ≤ mu (C * N + 1) l0
 yes : st.2 = true → mu (C * N + 1) st.1 < mu (C * N + 1) l0
 no : st.2 = false → st.1 = l0 ∧ ∀ k d, seen k d → satE F l0 k d
theorem PI.step {F : EdF} {N s : Nat} {C : Int} {l0 : List Int} (ok : EdOk F N C) {seen : Nat → Nat → Prop} {st : StR} (h : PI F N s C l0 seen st) (k d : Nat) (hd : d < 6) : PI F N s C l0 (fun a b => seen a b ∨ a = k ∧ b = d) (relU F st k d) := by
 unfold relU
 cases he : F k d with
 | none =>
  refine ⟨h.g, h.b, h.m, h.yes, fun hn => ⟨(h.no hn).1, fun a b hab => ?_⟩⟩
  rcases hab with hab | ⟨rfl, rfl⟩
  ·exact (h.no hn).2 a b hab
  ·intro t c he2; rw [he] at he2; cases he2
 | some p =>
  obtain ⟨t, c⟩ := p
  dsimp only
  by_cases hu : 0 ≤ vv st.1 k ∧ (vv st.1 t < 0 ∨ vv st.1 k + c < vv st.1 t)
  ·rw [if_pos hu]
   have := mu_upd ok h.g h.b he hu.1 hu.2
   have := h.m
   exact ⟨h.g.upd ok hd he hu.1 hu.2, h.b.upd ok h.g he hu.1 hu.2, by dsimp only; omega, fun _ => by dsimp only; omega, fun hn => by cases hn⟩
  ·rw [if_neg hu]
   refine ⟨h.g, h.b, h.m, h.yes, fun hn => ⟨(h.no hn).1, fun a b hab => ?_⟩⟩
   rcases hab with hab | ⟨rfl, rfl⟩
   ·exact (h.no hn).2 a b hab
   ·intro t2 c2 he2 h0
    rw [he] at he2
    cases he2
    rw [(h.no hn).1] at hu
    have := ok.e _ _ _ _ he
    omega
theorem PI.imp {F : EdF} {N s : Nat} {C : Int} {l0 : List Int} {p q : Nat → Nat → Prop} {st : StR} (h : PI F N s C l0 p st) (hpq : ∀ a b, q a b → p a b) : PI F N s C l0 q st :=
 ⟨h.g, h.b, h.m, h.yes, fun hn => ⟨(h.no hn).1, fun a b hab => (h.no hn).2 a b (hpq a b hab)⟩⟩
def dn (done : List Bool) (k : Nat) : Bool := done.getD k false
def relD (F : EdF) (b : Nat) (l : List Int) (d : Nat) : List Int := match F b d with
 | none => l
 | some (t, c) => if vv l t < 0 ∨ vv l b + c < vv l t then l.set t (vv l b + c) else l
def relB (F : EdF) (l : List Int) (b : Nat) : List Int := (List.range 6).foldl (relD F b) l
structure DI (F : EdF) (N s : Nat) (l : List Int) (done : List Bool) : Prop where
 g : Good F N s l
 n : done.length = N
 r : ∀ k, dn done k = true → 0 ≤ vv l k
 c : ∀ k j, dn done k = true → dn done j = false → 0 ≤ vv l j → vv l k ≤ vv l j
 e : ∀ k d, d < 6 → dn done k = true → satE F l k d
structure DJ (F : EdF) (N s : Nat) (l0 : List Int) (done : List Bool) (b : Nat) (pre : List Nat) (l : List Int) : Prop where
 g : Good F N s l
 same : ∀ k, dn done k = true ∨ k = b → vv l k = vv l0 k
 low : ∀ j, dn done j = false → 0 ≤ vv l j → vv l0 b ≤ vv l j
 dec : ∀ j, 0 ≤ vv l0 j → 0 ≤ vv l j ∧ vv l j ≤ vv l0 j
 sat : ∀ d ∈ pre, satE F l b d
theorem DJ.step {F : EdF} {N s : Nat} {C : Int} (ok : EdOk F N C) {l0 : List Int} {done : List Bool} {b : Nat} (h0 : DI F N s l0 done) (hb : 0 ≤ vv l0 b) (hbd : dn done b = false) {pre : List Nat} {l : List Int} (h : DJ F N s l0 done b pre l) {d : Nat} (hd : d < 6) :
  DJ F N s l0 done b (pre ++ [d]) (relD F b l d) := by
 have hvb : vv l b = vv l0 b := h.same b (.inr rfl)
 unfold relD
 cases he : F b d with
 | none =>
  refine ⟨h.g, h.same, h.low, h.dec, fun x hx => ?_⟩
  rcases List.mem_append.1 hx with hx | hx
  ·exact h.sat x hx
  ·rw [List.mem_singleton.1 hx]
   intro t c he2
   rw [he] at he2
   cases he2
 | some p =>
  obtain ⟨t, c⟩ := p
  obtain ⟨ht, hc1, hc2⟩ := ok.e b d t c he
  have htl : t < l.length := by rw [h.g.len]; exact ht
  dsimp only
  by_cases hu : vv l t < 0 ∨ vv l b + c < vv l t
  ·rw [if_pos hu]
   have htd : dn done t = false := by
    cases hdt : dn done t with
    | false => rfl
    | true =>
     have h1 := h.same t (.inl hdt)
     have h2 := h0.c t b hdt hbd hb
     have h3 := h0.r t hdt
     omega
   have htb : t ≠ b := fun e => by rw [e] at hu; omega
   refine ⟨h.g.upd ok hd he (by omega) hu, fun k hk => ?_, fun j hj hj0 => ?_, fun j hj => ?_, fun x hx => ?_⟩
   ·have hkt : k ≠ t := fun e => by
     subst e
     rcases hk with hk | hk
     ·rw [htd] at hk; cases hk
     ·exact htb hk
    rw [vv_set htl, if_neg hkt]
    exact h.same k hk
   ·rw [vv_set htl] at hj0 ⊢
    split
    ·omega
    ·rename_i hne
     rw [if_neg hne] at hj0
     exact h.low j hj hj0
   ·have := h.dec j hj
    rw [vv_set htl]
    split
    ·rename_i e
     subst e
     omega
    ·exact this
   ·have hold : ∀ x ∈ pre, satE F (l.set t (vv l b + c)) b x := fun x hx t2 c2 he2 _ => by
     have hs := h.sat x hx t2 c2 he2 (by omega)
     rw [vv_set htl, vv_set htl, if_neg (fun e : b = t => htb e.symm)]
     split
     ·rename_i e
      subst e
      omega
     ·exact hs
    rcases List.mem_append.1 hx with hx | hx
    ·exact hold x hx
    ·rw [List.mem_singleton.1 hx]
     intro t2 c2 he2 _
     rw [he] at he2
     cases he2
     rw [vv_set htl, vv_set htl, if_pos rfl, if_neg (fun e : b = t => htb e.symm)]
     omega
  ·rw [if_neg hu]
   refine ⟨h.g, h.same, h.low, h.dec, fun x hx => ?_⟩
   rcases List.mem_append.1 hx with hx | hx
   ·exact h.sat x hx
   ·rw [List.mem_singleton.1 hx]
    intro t2 c2 he2 _
    rw [he] at he2
    cases he2
    omega
theorem dn_set {done : List Bool} {b k : Nat} (hb : b < done.length) : dn (done.set b true) k = if k = b then true else dn done k := by
 unfold dn
 rw [List.getD_eq_getElem?_getD, List.getD_eq_getElem?_getD, List.getElem?_set]
 by_cases h : k = b
 ·subst h
  rw [if_pos rfl, if_pos rfl, if_pos hb]
  rfl
 ·rw [if_neg (fun e => h e.symm), if_neg h]
theorem DI.step {F : EdF} {N s : Nat} {C : Int} (ok : EdOk F N C) {l : List Int} {done : List Bool} (h : DI F N s l done) {b : Nat} (hbN : b < l.length) (hb : 0 ≤ vv l b) (hbd : dn done b = false) (hmin : ∀ k, k < l.length → 0 ≤ vv l k → dn done k = false → vv l b ≤ vv l k) :
  DI F N s (relB F l b) (done.set b true) := by
 have hj0 : DJ F N s l done b [] l := ⟨h.g, fun _ _ => rfl, fun j hj hj0 => hmin j (by
  by_cases hjl : j < l.length
  ·exact hjl
  ·rw [vv_out (by omega)] at hj0; omega) hj0 hj, fun j hj => ⟨hj, Int.le_refl _⟩, fun d hd => by cases hd⟩
 have := fold_inv (relD F b) (fun pre l' => (∀ d ∈ pre, d < 6) → DJ F N s l done b pre l') (fun pre x l' ih hp => (ih fun d hd => hp d (List.mem_append_left _ hd)).step ok h hb hbd (hp x (by simp))) (List.range 6) [] l (fun _ => hj0)
 rw [List.nil_append] at this
 have hj : DJ F N s l done b (List.range 6) (relB F l b) := this fun d hd => List.mem_range.1 hd
 have hbl : b < done.length := by rw [h.n, ← h.g.len]; exact hbN
 have hvb : vv (relB F l b) b = vv l b := hj.same b (.inr rfl)
 refine ⟨hj.g, by rw [List.length_set]; exact h.n, fun k hk => ?_, fun k j hk hjd hj0 => ?_, fun k d hd hk => ?_⟩
 ·rw [dn_set hbl] at hk
  by_cases e : k = b
  ·subst e; omega
  ·rw [if_neg e] at hk
   have := h.r k hk
   exact (hj.dec k this).1
 ·rw [dn_set hbl] at hk hjd
  by_cases ej : j = b
  ·rw [if_pos ej] at hjd; cases hjd
  ·rw [if_neg ej] at hjd
   have h1 := hj.low j hjd hj0
   by_cases e : k = b
   ·subst e; omega
   ·rw [if_neg e] at hk
    have h2 := hj.same k (.inl hk)
    have h3 := h.c k b hk hbd hb
    omega
 ·rw [dn_set hbl] at hk
  by_cases e : k = b
  ·subst e
   exact hj.sat d (List.mem_range.2 hd)
  ·rw [if_neg e] at hk
   intro t c he h0
   have h2 := hj.same k (.inl hk)
   have h3 := h.e k d hd hk t c he (by omega)
   have h4 := hj.dec t h3.1
   omega
theorem DI.init (F : EdF) {N s : Nat} (hs : s < N) : DI F N s ((List.replicate N (-1)).set s 0) (List.replicate N false) := by
 have hd : ∀ k, dn (List.replicate N false) k = false := fun k => by
  unfold dn
  rw [List.getD_eq_getElem?_getD, List.getElem?_replicate]
  split <;> rfl
 exact ⟨good_init F hs, by simp, fun k hk => (by rw [hd] at hk; cases hk), fun k j hk => (by rw [hd] at hk; cases hk), fun k d _ hk => (by rw [hd] at hk; cases hk)⟩
theorem Bd.init {C : Int} {N s : Nat} (hc : 0 ≤ C) (hs : s < N) : Bd C ((List.replicate N (-1)).set s 0) := by
 intro v hv
 have hn : negs ((List.replicate N (-1)).set s 0) + 1 = N := by
  have hg : (List.replicate N (-1 : Int))[s]? = some (-1) := by rw [List.getElem?_replicate, if_pos hs]
  have := negs_set hg 0 (by omega)
  rw [if_pos (by omega)] at this
  have h2 : negs (List.replicate N (-1 : Int)) = N := by
   unfold negs
   rw [List.filter_eq_self.2 fun x hx => by rw [List.eq_of_mem_replicate hx]; rfl]
   simp
  omega
 rw [List.length_set, List.length_replicate, show ((N : Int) - 1 - (negs ((List.replicate N (-1)).set s 0) : Int)) = 0 by omega, Int.mul_zero]
 rcases List.mem_or_eq_of_mem_set hv with h | h
 ·have := List.eq_of_mem_replicate h; omega
 ·omega
def weatherR (w : Int) : Int := if 0 < w then w - 1 else w
def stepC (b : DBoard) (kind w i d : Int) : Int :=
 if nextL b.Map i d < 0 ∨ costL b kind (nextL b.Map i d) = 0 then 0
 else if edgeL b.Map i d ∈ b.Map.Roads then b.Rules.Road + weatherR w
 else costL b kind (nextL b.Map i d) + w + (if edgeL b.Map i d ∈ b.Map.Rivers then b.Rules.River else 0)
structure MoveG (b : DBoard) (kind w : Int) : Prop where
 g : BoardG b
 n : MapN b.Map
 k0 : 0 ≤ kind
 k1 : kind < b.Rules.Kinds.length
 w0 : 0 ≤ w
 w2 : w ≤ 2
theorem rest_b {b : DBoard} (g : BoardG b) : 0 ≤ b.Rules.River ∧ b.Rules.River ≤ 9 ∧ 1 ≤ b.Rules.Road ∧ b.Rules.Road ≤ 9 := by
 have h := g.ok
 unfold boardB rulesB restB at h
 simp only [Bool.and_eq_true, inB_iff] at h
 omega
theorem next_at {b : DBoard} (g : BoardG b) {i d : Int} (h : 0 ≤ nextL b.Map i d) : nextL b.Map i d < b.Map.Width * b.Map.Height := nextL_area g.w0 g.h0 i d
theorem step_b {b : DBoard} {kind w : Int} (g : MoveG b kind w) (i d : Int) : 0 ≤ stepC b kind w i d ∧ stepC b kind w i d ≤ 20 ∧ (stepC b kind w i d ≠ 0 → 0 ≤ nextL b.Map i d ∧ nextL b.Map i d < b.Map.Width * b.Map.Height) := by
 have hr := rest_b g.g
 have := g.w0
 have := g.w2
 unfold stepC weatherR
 by_cases h : nextL b.Map i d < 0 ∨ costL b kind (nextL b.Map i d) = 0
 ·rw [if_pos h]; exact ⟨by omega, by omega, fun h => absurd rfl h⟩
 ·rw [if_neg h]
  have h0 : 0 ≤ nextL b.Map i d := by omega
  have hn := next_at g.g h0
  obtain ⟨_, c0, c9⟩ := g.g.cost_ex g.k0 g.k1 h0 hn
  refine ⟨?_, ?_, fun _ => ⟨h0, hn⟩⟩
  ·split
   ·split <;> omega
   ·split <;> omega
  ·split
   ·split <;> omega
   ·split <;> omega
theorem step_pos {b : DBoard} {kind w : Int} (g : MoveG b kind w) {i d : Int} (h : stepC b kind w i d ≠ 0) : 1 ≤ stepC b kind w i d := by
 have := step_b g i d
 omega
def edF (b : DBoard) (kind w : Int) : EdF := fun k d => if stepC b kind w (k : Int) (d : Int) = 0 then none else some ((nextL b.Map (k : Int) (d : Int)).toNat, stepC b kind w (k : Int) (d : Int))
theorem ed_ok {b : DBoard} {kind w : Int} (g : MoveG b kind w) : EdOk (edF b kind w) b.Map.Terrain.length 20 := by
 have ha := area_b g.g
 refine ⟨by omega, fun k d t c h => ?_⟩
 unfold edF at h
 by_cases hz : stepC b kind w (k : Int) (d : Int) = 0
 ·rw [if_pos hz] at h; cases h
 ·rw [if_neg hz] at h
  cases h
  have h1 := step_b g (k : Int) (d : Int)
  have h2 := h1.2.2 hz
  have h3 := step_pos g hz
  exact ⟨by omega, h3, h1.2.1⟩
structure JR (b : DBoard) (kind w : Int) (N s : Nat) (l : List Int) : Prop where
 g : Good (edF b kind w) N s l
 b : Bd 20 l
theorem JR.val {b : DBoard} {kind w : Int} {N s : Nat} {l : List Int} (h : JR b kind w N s l) (hN : N ≤ 100) (k : Nat) : -1 ≤ vv l k ∧ vv l k ≤ 2000 := by
 refine ⟨h.g.neg k, ?_⟩
 by_cases hk : k < l.length
 ·have := h.b.top (by omega) (mem_of_get (vv_get hk))
  have := h.g.len
  omega
 ·rw [vv_out (by omega)]; omega
theorem JR.relU {b : DBoard} {kind w : Int} (g : MoveG b kind w) {s : Nat} {st : StR} (h : JR b kind w b.Map.Terrain.length s st.1) {k d : Nat} (hd : d < 6) : JR b kind w b.Map.Terrain.length s (relU (edF b kind w) st k d).1 := by
 unfold Go.Ev.relU
 cases he : edF b kind w k d with
 | none => exact h
 | some p =>
  obtain ⟨t, c⟩ := p
  dsimp only
  split
  ·rename_i hu
   exact ⟨h.g.upd (ed_ok g) hd he hu.1 hu.2, h.b.upd (ed_ok g) h.g he hu.1 hu.2⟩
  ·exact h
theorem JR.relD {b : DBoard} {kind w : Int} (g : MoveG b kind w) {s : Nat} {l : List Int} (h : JR b kind w b.Map.Terrain.length s l) {a d : Nat} (h0 : 0 ≤ vv l a) (hd : d < 6) : JR b kind w b.Map.Terrain.length s (relD (edF b kind w) a l d) ∧ 0 ≤ vv (relD (edF b kind w) a l d) a := by
 unfold Go.Ev.relD
 cases he : edF b kind w a d with
 | none => exact ⟨h, h0⟩
 | some p =>
  obtain ⟨t, c⟩ := p
  dsimp only
  split
  ·rename_i hu
   have hg : JR b kind w b.Map.Terrain.length s (l.set t (vv l a + c)) := ⟨h.g.upd (ed_ok g) hd he h0 hu, h.b.upd (ed_ok g) h.g he h0 hu⟩
   refine ⟨hg, ?_⟩
   have := (ed_ok g).e _ _ _ _ he
   rw [vv_set (by rw [h.g.len]; exact this.1)]
   split
   ·omega
   ·exact h0
  ·exact ⟨h, h0⟩
theorem JR.relB {b : DBoard} {kind w : Int} (g : MoveG b kind w) {s : Nat} {l : List Int} (h : JR b kind w b.Map.Terrain.length s l) {a : Nat} (h0 : 0 ≤ vv l a) : JR b kind w b.Map.Terrain.length s (relB (edF b kind w) l a) := by
 unfold Go.Ev.relB
 have := fold_inv (Go.Ev.relD (edF b kind w) a) (fun pre l => (∀ d ∈ pre, d < 6) → JR b kind w b.Map.Terrain.length s l ∧ 0 ≤ vv l a) (fun pre x st ih hp => by
  have h := ih fun d hd => hp d (List.mem_append_left _ hd)
  exact h.1.relD g h.2 (hp x (by simp))) (List.range 6) [] l (fun _ => ⟨h, h0⟩)
 rw [List.nil_append] at this
 exact (this fun d hd => List.mem_range.1 hd).1
theorem l_moved_1 (b : DBoard) (hb : BoardN b) (side f0 f1 : Int) : ∀ (m : Nat) (us : List DUnit) (N : Nat) (c : Dl1Cur) (t w k n : Int), us.length = N → N ≤ 20 → k ≤ m → m ≤ 10 → Cu c n → n + 10 * m ≤ Far - 1000 →
  OK (L_sc_moved_L2_1 us c b t w 0 N N f0 f1 side k) fun r => ∃ v : DState × Dl1Cur, r = en_sc_moved v ∧ v.1.Units.length ≤ 20 ∧ Cu v.2 (n + 10 * m) := by
 intro m
 induction m with
 | zero =>
  intro us N c t w k n hN h20 hk hm hc hn
  refine OK.le (e_sc_moved_L2_1 _ _ _ _ _ _ _ _ _ _ _ _) ?_
  rw [if_neg (by simp; omega)]
  exact OK.cast inj_state (a := ⟨t, w, us⟩) (gvStT hN.symm rfl) (OK.some ⟨(_, _), rfl, by show us.length ≤ 20; omega, hc.to⟩)
 | succ m ih =>
  intro us N c t w k n hN h20 hk hm hc hn
  unfold Far at hn
  refine OK.le (e_sc_moved_L2_1 _ _ _ _ _ _ _ _ _ _ _ _) ?_
  refine OK.ite (fun hk0 => ?_) (fun _ => ?_)
  ·rw [decide_eq_true_eq] at hk0
   refine OK.cast inj_state (a := ⟨t, w, us⟩) (gvState' hN.symm rfl) ?_
   rw [cast_of inj_spec_sOf (c_spec_sOf _ _ (by dsimp only; omega)), gd_eq (fun _ => rfl)]
   dsimp only
   have hol := of_len us side
   refine OK.ite (fun _ => ?_) (fun hz => ?_)
   ·exact OK.cast inj_state (a := ⟨t, w, us⟩) (gvStT hN.symm rfl) (OK.some ⟨(_, _), rfl, by show us.length ≤ 20; omega, hc.to⟩)
   ·refine OK.cast inj_state (a := ⟨t, w, us⟩) (gvState' hN.symm rfl) ?_
    rw [cast_of inj_spec_sOwn (c_spec_sOwn _ (by dsimp only; omega)), gd_eq (fun _ => rfl)]
    refine koA inj_sc_pick (o_sc_pick _ _ _ hc (by unfold Far; omega)) fun p hp => ?_
    obtain ⟨p, c1⟩ := p
    obtain ⟨p0, p1, hc1⟩ := hp
    dsimp only at p0 p1 hc1 ⊢
    have hz' : (ofL us side).length ≠ 0 := fun e => hz (by rw [e]; rfl)
    obtain ⟨q, rfl⟩ := Int.eq_ofNat_of_zero_le p0
    have hq : q < (ofL us side).length := by omega
    have hx := List.getElem?_eq_getElem hq
    obtain ⟨j, u, e, hj, hu, hmem, _, _⟩ := unit_of (mem_of_get hx)
    obtain ⟨j', e', hj', _⟩ := getI_some hu
    obtain rfl : j = j' := by omega
    rw [oxA_at rt_cI rfl hq]
    refine OK.eq (ld_at (E := tI) rfl rfl ok_cI (fun _ => rfl) (l := ofL us side) rfl rfl hx _) ?_
    refine koA inj_sc_place (o_sc_place _ _ _ hc1 (by unfold Far; omega)) fun v hv => ?_
    rw [e, oxA_at rt_cUnit rfl hj, stF (f := 2) ok_cUnit rfl rfl hj' rfl (by omega) rfl (y' := { u with At := v.1 }) rfl]
    have hlen : (us.set j { u with At := v.1 }).length = us.length := List.length_set ..
    refine OK.cast inj_state (a := ⟨t, w, us.set j { u with At := v.1 }⟩) (gvState' hlen.symm rfl) ?_
    rw [cast_of inj_spec_sGood (c_spec_sGood _ _ hb (by dsimp only; omega)), wrap_id (n := k - 1) (by omega) (by omega)]
    refine OK.ite (fun _ => ?_) (fun _ => ?_)
    ·obtain ⟨r, h1, v', h2, h3, h4⟩ := ih (us.set j { u with At := v.1 }) us.length v.2 t w (k - 1) (n + 6) hlen (by omega) (by omega) (by omega) hv.to (by unfold Far; omega)
     exact ⟨r, h1, v', h2, h3, h4.to⟩
    ·obtain ⟨r, h1, v', h2, h3, h4⟩ := ih us N v.2 t w (k - 1) (n + 6) hN h20 (by omega) (by omega) hv.to (by unfold Far; omega)
     exact ⟨r, h1, v', h2, h3, h4.to⟩
  ·exact OK.cast inj_state (a := ⟨t, w, us⟩) (gvStT hN.symm rfl) (OK.some ⟨(_, _), rfl, by show us.length ≤ 20; omega, hc.to⟩)
theorem l_moved (b : DBoard) (hb : BoardN b) (side f0 f1 : Int) (s : DState) (h20 : s.Units.length ≤ 20) : ∀ (m : Nat) (c : Dl1Cur) (k n : Int), k ≤ m → m ≤ 10 → Cu c n → n + 10 * m ≤ Far - 1000 →
  OK (L_sc_moved_L2 c b s f0 f1 side k) fun r => ∃ v : DState × Dl1Cur, r = en_sc_moved v ∧ v.1.Units.length ≤ 20 ∧ Cu v.2 (n + 10 * m) := by
 intro m
 induction m with
 | zero =>
  intro c k n hk hm hc hn
  refine OK.le (e_sc_moved_L2 _ _ _ _ _ _ _) ?_
  rw [if_neg (by simp; omega)]
  exact OK.some ⟨(_, _), rfl, h20, hc.to⟩
 | succ m ih =>
  intro c k n hk hm hc hn
  unfold Far at hn
  refine OK.le (e_sc_moved_L2 _ _ _ _ _ _ _) ?_
  refine OK.ite (fun hk0 => ?_) (fun _ => ?_)
  ·rw [decide_eq_true_eq] at hk0
   rw [cast_of inj_spec_sOf (c_spec_sOf _ _ (by omega))]
   have hol := of_len s.Units side
   refine OK.ite (fun _ => ?_) (fun hz => ?_)
   ·exact OK.some ⟨(_, _), rfl, h20, hc.to⟩
   ·rw [cast_of inj_spec_sOwn (c_spec_sOwn _ (by omega))]
    refine koA inj_sc_pick (o_sc_pick _ _ _ hc (by unfold Far; omega)) fun p hp => ?_
    obtain ⟨p, c1⟩ := p
    obtain ⟨p0, p1, hc1⟩ := hp
    dsimp only at p0 p1 hc1 ⊢
    have hz' : (ofL s.Units side).length ≠ 0 := fun e => hz (by rw [e]; rfl)
    obtain ⟨q, rfl⟩ := Int.eq_ofNat_of_zero_le p0
    have hq : q < (ofL s.Units side).length := by omega
    have hx := List.getElem?_eq_getElem hq
    obtain ⟨j, u, e, hj, hu, hmem, _, _⟩ := unit_of (mem_of_get hx)
    obtain ⟨j', e', hj', _⟩ := getI_some hu
    obtain rfl : j = j' := by omega
    rw [oxA_at rt_cI rfl hq]
    refine OK.eq (ld_at (E := tI) rfl rfl ok_cI (fun _ => rfl) (l := ofL s.Units side) rfl rfl hx _) ?_
    refine koA inj_sc_place (o_sc_place _ _ _ hc1 (by unfold Far; omega)) fun v hv => ?_
    rw [e, oxA_at rt_cUnit rfl hj, stF (f := 2) ok_cUnit rfl rfl hj' rfl (by omega) rfl (y' := { u with At := v.1 }) rfl]
    have hlen : (s.Units.set j { u with At := v.1 }).length = s.Units.length := List.length_set ..
    refine OK.cast inj_state (a := ⟨s.Turn, s.Weather, s.Units.set j { u with At := v.1 }⟩) (gvState' hlen.symm rfl) ?_
    rw [cast_of inj_spec_sGood (c_spec_sGood _ _ hb (by dsimp only; omega)), wrap_id (n := k - 1) (by omega) (by omega)]
    refine OK.ite (fun _ => ?_) (fun _ => ?_)
    ·obtain ⟨r, h1, v', h2, h3, h4⟩ := l_moved_1 b hb side f0 f1 m (s.Units.set j { u with At := v.1 }) s.Units.length v.2 s.Turn s.Weather (k - 1) (n + 6) hlen h20 (by omega) (by omega) hv.to (by unfold Far; omega)
     exact ⟨r, h1, v', h2, h3, h4.to⟩
    ·obtain ⟨r, h1, v', h2, h3, h4⟩ := ih v.2 (k - 1) (n + 6) (by omega) (by omega) hv.to (by unfold Far; omega)
     exact ⟨r, h1, v', h2, h3, h4.to⟩
  ·exact OK.some ⟨(_, _), rfl, h20, hc.to⟩
theorem o_sc_moved (c : Dl1Cur) (b : DBoard) (s : DState) (side : Int) (hb : BoardN b) (hu : s.Units.length ≤ 20) (n : Int) (hc : Cu c n) (hn : n ≤ Far - 2000) : ∃ v, A_sc_moved c b s side = some (en_sc_moved v) ∧ (v.1.Units.length ≤ 20 ∧ Cu v.2 (n + 40)) := by
 refine okA (e_sc_moved _ _ _ _) ?_
 unfold Far at hn
 refine koA inj_sc_pick (o_sc_pick _ _ _ hc (by unfold Far; omega)) fun p hp => ?_
 obtain ⟨p0, p1, hc1⟩ := hp
 rw [wrap_id (n := 1 + p.1) (by omega) (by omega)]
 obtain ⟨r, h1, v, h2, h3, h4⟩ := l_moved b hb side 0 0 s hu 3 p.2 (1 + p.1) (n + 2) (by omega) (by omega) hc1 (by unfold Far; omega)
 exact ⟨r, h1, v, h2, h3, h4.to⟩
theorem c_laws_sameInts (l : List Int) (hl : l.length < 1000000000000) : A_laws_sameInts l l = some (en_laws_sameInts true) := by
 apply e_laws_sameInts
 rw [if_neg (by simp)]
 refine fold_loop (fun j (_ : Unit) => L_laws_sameInts_L4 l l l.length j) l (fun _ u _ => u) (fun _ _ => True) (fun _ => some (en_laws_sameInts true)) ?_ ?_ () trivial _ rfl
 ·intro _ _ r hr
  apply e_laws_sameInts_L4
  rw [if_neg (by simp)]
  exact hr
 ·intro j x _ hx hj _
  refine ⟨trivial, ?_⟩
  intro r hr
  apply e_laws_sameInts_L4
  rw [if_pos (by simpa using hj), ixA_at sl_cI rfl hx, ixA_at sl_cI rfl hx, if_neg (by simp), wrap_id (n := (j : Int) + 1) (by omega) (by omega)]
  exact hr
theorem cnt_zero {us : List DUnit} {i t : Int} : cnt us i t = 0 ↔ ∀ u ∈ us, ¬ (u.At = i ∧ u.Side = t) := by
 unfold cnt
 rw [List.length_eq_zero_iff, List.filter_eq_nil_iff]
 simp
def backB (b : DBoard) (s : DState) (x : DUnit) (u k : Int) : Bool :=
 decide (0 ≤ k) && (!decide (costL b x.Kind k = 0) && (decide (cnt s.Units k (1 - x.Side) = 0) && ((sAtL s.Units k x.Side).any (fun v => v != u) || !inZoneL b s.Units (1 - x.Side) k)))
def roomB (b : DBoard) (s : DState) (side i : Int) : Bool := decide (cnt s.Units i (1 - side) = 0) && decide ((cnt s.Units i side : Int) < b.Rules.Stack)
def fwdB (b : DBoard) (a i k : Int) : Bool := decide (distL (hexL b.Map a) (hexL b.Map k) = distL (hexL b.Map a) (hexL b.Map i) + 1)
def goB (b : DBoard) (s : DState) (x : DUnit) (u i d : Int) : Bool := backB b s x u (nextL b.Map i d) && fwdB b x.At i (nextL b.Map i d)
def backR (b : DBoard) (s : DState) (x : DUnit) (u : Int) : Nat → Int → List Int → List (List Int)
 | 0, i, p => if roomB b s x.Side i then [p] else []
 | n + 1, i, p => dl.flatMap fun d => if goB b s x u i d then backR b s x u n (nextL b.Map i d) (p ++ [d]) else []
def endW (m : DMap) (i : Int) (ds : List Int) : Int := ds.foldl (fun i d => nextL m i d) i
theorem cnt_put {us : List DUnit} {k : Nat} {y z : DUnit} (h : us[k]? = some y) (a t : Int) : cnt (us.set k z) a t + (if y.At = a ∧ y.Side = t then 1 else 0) = cnt us a t + (if z.At = a ∧ z.Side = t then 1 else 0) := by
 unfold cnt
 induction us generalizing k with
 | nil => simp at h
 | cons x us ih =>
  cases k with
  | zero =>
   simp only [List.getElem?_cons_zero, Option.some.injEq] at h
   subst h
   rw [List.set_cons_zero, List.filter_cons, List.filter_cons]
   by_cases h1 : x.At = a ∧ x.Side = t <;> by_cases h2 : z.At = a ∧ z.Side = t <;> simp [h1, h2]
  | succ k =>
   simp only [List.getElem?_cons_succ] at h
   have := ih h
   rw [List.set_cons_succ, List.filter_cons, List.filter_cons]
   split <;> (try simp only [List.length_cons]) <;> omega
theorem game_put {b : DBoard} {s : DState} (hg : gameB b s = true) {k : Nat} {y z : DUnit} (hy : s.Units[k]? = some y) (hz : unitB b z = true) (hs : z.Side = y.Side) (hyb : y.Side = 0 ∨ y.Side = 1)
  (hp : z.At < 0 ∨ z.At = y.At ∨ (cnt s.Units z.At (1 - y.Side) = 0 ∧ (cnt s.Units z.At y.Side : Int) < b.Rules.Stack)) (hu0 : ∀ u ∈ s.Units, u.Side = 0 ∨ u.Side = 1) : gameB b ⟨s.Turn, s.Weather, s.Units.set k z⟩ = true := by
 unfold gameB at hg ⊢
 rw [Bool.and_eq_true] at hg ⊢
 refine ⟨hg.1, ?_⟩
 have hq := hg.2
 unfold stateB at hq ⊢
 simp only [Bool.and_eq_true, List.all_eq_true, List.length_set] at hq ⊢
 have hpl : ∀ w ∈ s.Units, w.At < 0 ∨ (cnt s.Units w.At (1 - w.Side) = 0 ∧ (cnt s.Units w.At w.Side : Int) ≤ b.Rules.Stack) := fun w hw => by
  have := hq.2.2.2.2 w hw
  unfold placedB at this
  simpa only [Bool.or_eq_true, Bool.and_eq_true, decide_eq_true_eq] using this
 refine ⟨hq.1, hq.2.1, hq.2.2.1, fun u hu => ?_, fun u hu => ?_⟩
 ·rcases mem_set hu with h | h
  ·exact hq.2.2.2.1 u h
  ·subst h; exact hz
 ·unfold placedB
  simp only [Bool.or_eq_true, Bool.and_eq_true, decide_eq_true_eq]
  have c1 := cnt_put (z := z) hy u.At (1 - u.Side)
  have c2 := cnt_put (z := z) hy u.At u.Side
  have hyp := hpl y (mem_of_get hy)
  rcases mem_set hu with h | h
  ·have hup := hpl u h
   have hus := hu0 u h
   by_cases hneg : u.At < 0
   ·exact .inl hneg
   ·refine .inr ?_
    have hup := hup.resolve_left hneg
    rcases hp with hp | hp | hp
    ·rw [if_neg (c := z.At = u.At ∧ z.Side = 1 - u.Side) (by omega)] at c1
     rw [if_neg (c := z.At = u.At ∧ z.Side = u.Side) (by omega)] at c2
     omega
    ·rw [hp, hs] at c1 c2
     omega
    ·by_cases he : z.At = u.At
     ·by_cases hsd : u.Side = y.Side
      ·rw [← he, hsd] at c1 c2 ⊢
       rw [if_neg (c := z.At = z.At ∧ z.Side = 1 - y.Side) (by omega)] at c1
       rw [if_pos (c := z.At = z.At ∧ z.Side = y.Side) ⟨rfl, hs⟩] at c2
       omega
      ·exact absurd (cnt_zero.1 hp.1 u h ⟨he.symm, by omega⟩) (by simp)
     ·rw [if_neg (c := z.At = u.At ∧ z.Side = 1 - u.Side) (by omega)] at c1
      rw [if_neg (c := z.At = u.At ∧ z.Side = u.Side) (by omega)] at c2
      omega
  ·subst h
   rw [hs] at c1 c2 ⊢
   rw [if_neg (c := u.At = u.At ∧ y.Side = 1 - y.Side) (by omega)] at c1
   rw [if_pos (c := u.At = u.At ∧ y.Side = y.Side) ⟨rfl, rfl⟩] at c2
   rcases hp with hp | hp | hp
   ·exact .inl hp
   ·rw [if_pos (c := y.At = u.At ∧ y.Side = y.Side) ⟨hp.symm, rfl⟩] at c2
    rcases hyp with hyp | hyp
    ·exact .inl (by omega)
    ·rw [hp] at c1 c2 ⊢
     exact .inr (by omega)
   ·exact .inr (by omega)
theorem game_lose {b : DBoard} {s : DState} (hg : gameB b s = true) (hn : BoardN b) {k : Nat} {y : DUnit} (hy : s.Units[k]? = some y) (h0 : 0 ≤ y.At) : gameB b ⟨s.Turn, s.Weather, s.Units.set k (loseU y 1)⟩ = true := by
 have g := StateG.ofB hg hn
 have hm := mem_of_get hy
 have hst := on_steps g hm h0
 have hb := g.u y hm
 have e := lose_one (u := y) hst.1 (by omega)
 have h1 : (loseU y 1).Side = y.Side ∧ ((loseU y 1).At = y.At ∨ (loseU y 1).At = -1) := by rw [e]; split <;> simp
 refine game_put hg hy ?_ h1.1 (unit_side hb) ?_ fun u hu => unit_side (g.u u hu)
 ·rw [e]
  unfold unitB at hb ⊢
  simp only [Bool.and_eq_true, Bool.or_eq_true, decide_eq_true_eq, inB_iff, beq_iff_eq] at hb ⊢
  split
  ·exact ⟨hb.1, hb.2.1, by dsimp only; omega, .inl rfl⟩
  ·exact ⟨hb.1, hb.2.1, by dsimp only; omega, hb.2.2.2.imp id fun q => ⟨by dsimp only; omega, q.2⟩⟩
 ·rcases h1.2 with h | h
  ·exact .inr (.inl h)
  ·exact .inl (by omega)
theorem game_move {b : DBoard} {s : DState} (hg : gameB b s = true) (hn : BoardN b) {k : Nat} {y : DUnit} (hy : s.Units[k]? = some y) (h0 : 0 ≤ y.At) {p : Int} (hp0 : 0 ≤ p) (hp1 : p < b.Map.Width * b.Map.Height) (hc : costL b y.Kind p ≠ 0) (hr : roomB b s y.Side p = true) : gameB b ⟨s.Turn, s.Weather, s.Units.set k { y with At := p }⟩ = true := by
 have g := StateG.ofB hg hn
 have hm := mem_of_get hy
 have hb := g.u y hm
 have hst := on_steps g hm h0
 have hk := unit_kind hb
 have hce := (g.bg.cost_ex hk.1 hk.2 hp0 hp1).2
 unfold roomB at hr
 rw [Bool.and_eq_true, decide_eq_true_eq, decide_eq_true_eq] at hr
 refine game_put hg hy ?_ rfl (unit_side hb) (.inr (.inr hr)) fun u hu => unit_side (g.u u hu)
 unfold unitB at hb ⊢
 simp only [Bool.and_eq_true, Bool.or_eq_true, decide_eq_true_eq, inB_iff, beq_iff_eq] at hb ⊢
 exact ⟨hb.1, hb.2.1, hb.2.2.1, .inr ⟨by omega, by omega, by omega⟩⟩
theorem drop_at {α : Type} {l : List α} {k : Nat} {x : α} (h : l[k]? = some x) : l.drop k = x :: l.drop (k + 1) := by
 obtain ⟨h1, h2⟩ := List.getElem?_eq_some_iff.1 h
 rw [List.drop_eq_getElem_cons h1, h2]
section
variable {b : DBoard} {s : DState} (g : StateG b s) {u : Int} {x : DUnit} (hx : getI s.Units u = some x) (hxm : x ∈ s.Units) (ha : 0 ≤ x.At)
include g hx hxm ha
end
section
variable {b : DBoard} {s : DState} (g : StateG b s) {u : Int} {x : DUnit} (hx : getI s.Units u = some x) (hxm : x ∈ s.Units) (ha : 0 ≤ x.At)
include g hx hxm ha
end
def okW (b : DBoard) (m : DMap) : Int → List Int → Prop
 | _, [] => True
 | i, d :: ds => 0 ≤ d ∧ d < 6 ∧ 0 ≤ nextL m i d ∧ okW b m (nextL m i d) ds
theorem endW_lt {b : DBoard} (g : BoardG b) : ∀ (ds : List Int) (i : Int), ds ≠ [] → endW b.Map i ds < b.Map.Width * b.Map.Height
 | [d], i, _ => nextL_area g.w0 g.h0 i d
 | d :: e :: ds, i, _ => endW_lt g (e :: ds) (nextL b.Map i d) (by simp)
theorem backR_ok {b : DBoard} {s : DState} {x : DUnit} {u : Int} : ∀ (n : Nat) (i : Int) (p q : List Int), q ∈ backR b s x u n i p → ∃ ds, q = p ++ ds ∧ ds.length = n ∧ okW b b.Map i ds ∧ (n ≠ 0 → costL b x.Kind (endW b.Map i ds) ≠ 0 ∧ 0 ≤ endW b.Map i ds) ∧ roomB b s x.Side (endW b.Map i ds) = true
 | 0, i, p, q, h => by
  unfold backR at h
  split at h
  ·rename_i hr
   simp at h
   exact ⟨[], by simp [h], rfl, trivial, fun h => absurd rfl h, hr⟩
  ·simp at h
 | n + 1, i, p, q, h => by
  unfold backR at h
  obtain ⟨d, hd, h⟩ := List.mem_flatMap.1 h
  split at h
  ·rename_i hg
   obtain ⟨ds, h1, h2, h3, h4, h5⟩ := backR_ok n _ _ _ h
   have hd2 : 0 ≤ d ∧ d < 6 := by unfold dl at hd; simp at hd; omega
   unfold goB backB at hg
   simp only [Bool.and_eq_true, decide_eq_true_eq, Bool.not_eq_true', decide_eq_false_iff_not] at hg
   refine ⟨d :: ds, by simp [h1], by simp [h2], ⟨hd2.1, hd2.2, hg.1.1, h3⟩, fun _ => ?_, h5⟩
   cases ds with
   | nil => exact ⟨hg.1.2.1, hg.1.1⟩
   | cons e ds => exact h4 (by simp at h2; omega)
  ·simp at h
def retU (b : DBoard) (s : DState) (u n : Int) : DState × Bool := match getI s.Units u with
 | some x => match backR b s x u n.toNat x.At [] with
  | [] => (⟨s.Turn, s.Weather, s.Units.set u.toNat (loseU x 1)⟩, false)
  | p :: _ => (⟨s.Turn, s.Weather, s.Units.set u.toNat { x with At := endW b.Map x.At p }⟩, true)
 | none => (s, false)
theorem retU_some {b : DBoard} {s : DState} {u n : Int} {x : DUnit} (hx : getI s.Units u = some x) : retU b s u n = match backR b s x u n.toNat x.At [] with
  | [] => (⟨s.Turn, s.Weather, s.Units.set u.toNat (loseU x 1)⟩, false)
  | p :: _ => (⟨s.Turn, s.Weather, s.Units.set u.toNat { x with At := endW b.Map x.At p }⟩, true) := by unfold retU; rw [hx]
theorem retU_game {b : DBoard} {s : DState} {u n : Int} {x : DUnit} (hg : gameB b s = true) (hn : BoardN b) (hx : getI s.Units u = some x) (h0 : 0 ≤ x.At) (h1 : 1 ≤ n) :
  gameB b (retU b s u n).1 = true ∧ ∀ v, v ≠ u → getI (retU b s u n).1.Units v = getI s.Units v := by
 obtain ⟨k, e, hk, _⟩ := getI_some hx
 subst e
 have hoth : ∀ (z : DUnit) (v : Int), v ≠ (k : Int) → getI (s.Units.set k z) v = getI s.Units v := fun z v hv => by
  unfold getI
  split
  ·rw [List.getElem?_set_ne (by omega)]
  ·rfl
 rw [retU_some hx]
 cases hb : backR b s x k n.toNat x.At [] with
 | nil => exact ⟨game_lose hg hn hk h0, fun v hv => hoth _ v hv⟩
 | cons p r =>
  obtain ⟨ds, q1, q2, q3, q4, q5⟩ := backR_ok n.toNat x.At [] p (by rw [hb]; simp)
  rw [List.nil_append] at q1
  subst q1
  have q4 := q4 (by omega)
  have g := StateG.ofB hg hn
  exact ⟨game_move hg hn hk h0 q4.2 (endW_lt g.bg p x.At (by intro h; rw [h] at q2; simp at q2; omega)) q4.1 q5, fun v hv => hoth _ v hv⟩
theorem onMap_ex {us : List DUnit} {u : Int} (h : onMapB us u = true) : ∃ x, getI us u = some x ∧ 0 ≤ x.At := by
 unfold onMapB at h
 cases hg : getI us u with
 | none => rw [hg] at h; simp at h
 | some x => rw [hg] at h; exact ⟨x, rfl, by simpa using h⟩
section
variable {b : DBoard} {s : DState} (g : StateG b s) (hn : BoardN b) {u : Int} {x : DUnit} (hx : getI s.Units u = some x) (ha : 0 ≤ x.At) {n : Int} (h1 : 1 ≤ n) (h3 : n ≤ 3)
include g hx ha h1 h3
end
structure AllG (b : DBoard) (s : DState) (l : List Int) : Prop where
 g : gameB b s = true
 r : risingB l = true
 o : ∀ u ∈ l, onMapB s.Units u = true
theorem AllG.next {b : DBoard} {s : DState} {u n : Int} {l : List Int} (h : AllG b s (u :: l)) (hn : BoardN b) (h1 : 1 ≤ n) : AllG b (retU b s u n).1 l := by
 obtain ⟨x, hx, h0⟩ := onMap_ex (h.o u (by simp))
 obtain ⟨q1, q2⟩ := retU_game h.g hn hx h0 h1
 have hr := rising_tail h.r
 refine ⟨q1, hr.1, fun v hv => ?_⟩
 have := hr.2 v hv
 have ho := h.o v (by simp [hv])
 unfold onMapB at ho ⊢
 rw [q2 v (by omega)]
 exact ho
section
variable (b : DBoard) (s : DState) (u n : Int) (hn : BoardN b) (hs : s.Units.length < 1000000000000)
include hn hs
end
theorem AllG.tail {b : DBoard} {s : DState} {u : Int} {l : List Int} (h : AllG b s (u :: l)) : AllG b s l := ⟨h.g, (rising_tail h.r).1, fun v hv => h.o v (by simp [hv])⟩
section
variable (b : DBoard) (s : DState) (hn : BoardN b) (hs : s.Units.length < 1000000000000)
include hn hs
end
def hNearL (n d : Int) : List Int := if 2 * (n - n / d * d) < d then [n / d] else if d < 2 * (n - n / d * d) then [n / d + 1] else [n / d, n / d + 1]
def cellO (q r n : Int) : List DHex := if q % n = 0 then (hNearL r n).map fun y => ⟨q / n, y⟩ else (hNearL q n).map fun x => if r % n = 0 then ⟨x, r / n⟩ else ⟨x, (q + r) / n - x⟩
def mvH (a c : Int) (h : DHex) : DHex := ⟨h.Q + a, h.R + c⟩
theorem hNearL_mv (n d a : Int) (hd : d ≠ 0) : hNearL (n + d * a) d = (hNearL n d).map (· + a) := by
 unfold hNearL
 rw [Int.add_mul_ediv_left _ _ hd]
 have : n + d * a - (n / d + a) * d = n - n / d * d := by rw [Int.add_mul, Int.mul_comm a d]; omega
 rw [this]
 split
 ·rfl
 ·split
  ·simp; omega
  ·simp; omega
theorem cellO_mv (q r n a c : Int) (hn : n ≠ 0) : cellO (q + n * a) (r + n * c) n = (cellO q r n).map (mvH a c) := by
 unfold cellO
 rw [Int.add_mul_emod_self_left, Int.add_mul_emod_self_left, hNearL_mv _ _ _ hn, hNearL_mv _ _ _ hn, Int.add_mul_ediv_left _ _ hn, Int.add_mul_ediv_left _ _ hn]
 have e : (q + n * a + (r + n * c)) / n = (q + r) / n + (a + c) := by
  rw [show q + n * a + (r + n * c) = q + r + n * (a + c) by rw [Int.mul_add]; omega, Int.add_mul_ediv_left _ _ hn]
 rw [e]
 split
 ·rw [List.map_map, List.map_map]; rfl
 ·rw [List.map_map, List.map_map]
  refine List.map_congr_left fun x _ => ?_
  simp only [Function.comp]
  split
  ·rfl
  ·unfold mvH; simp; omega
def distO (p r : Int) : Int := (absI p + absI r + absI (p + r)) / 2
def betw (p x : Int) : Bool := if 0 ≤ p then decide (0 ≤ x) && decide (x ≤ p) else decide (p ≤ x) && decide (x ≤ 0)
def lineB (p r i : Int) : Bool := (cellO (p * i) (r * i) (distO p r)).all fun h => betw p h.Q && betw r h.R
def allB (f : Int → Int → Int → Bool) : Bool := (List.range 19).all fun (p : Nat) => (List.range 19).all fun (r : Nat) => (List.range ((distO ((p : Int) - 9) ((r : Int) - 9)).toNat + 1)).all fun (i : Nat) => distO ((p : Int) - 9) ((r : Int) - 9) == 0 || f ((p : Int) - 9) ((r : Int) - 9) i
theorem lineB_ok : allB lineB = true := by decide +kernel
theorem allB_at {f : Int → Int → Int → Bool} (h : allB f = true) {p r i : Int} (hp : -9 ≤ p ∧ p ≤ 9) (hr : -9 ≤ r ∧ r ≤ 9) (hd : distO p r ≠ 0) (h0 : 0 ≤ i) (hi : i ≤ distO p r) : f p r i = true := by
 unfold allB at h
 rw [List.all_eq_true] at h
 have h1 := h (p + 9).toNat (by rw [List.mem_range]; omega)
 rw [List.all_eq_true] at h1
 have h2 := h1 (r + 9).toNat (by rw [List.mem_range]; omega)
 rw [List.all_eq_true] at h2
 have e1 : (((p + 9).toNat : Nat) : Int) - 9 = p := by omega
 have e2 : (((r + 9).toNat : Nat) : Int) - 9 = r := by omega
 rw [e1, e2] at h2
 have h3 := h2 i.toNat (by rw [List.mem_range]; omega)
 rw [show ((i.toNat : Nat) : Int) = i by omega, Bool.or_eq_true, beq_iff_eq] at h3
 exact h3.resolve_left hd
theorem distO_L (a b : DHex) : distO (b.Q - a.Q) (b.R - a.R) = distL a b := by
 unfold distO distL
 have : ∀ n, 0 ≤ absI n := fun n => by unfold absI; split <;> omega
 have h1 := this (b.Q - a.Q); have h2 := this (b.R - a.R); have h3 := this (b.Q - a.Q + (b.R - a.R))
 rw [Int.tdiv_eq_ediv_of_nonneg (by omega)]
def smH (h : DHex) : Prop := 0 ≤ h.Q ∧ h.Q ≤ 9 ∧ 0 ≤ h.R ∧ h.R ≤ 9
def betwI (x a b : Int) : Prop := (a ≤ x ∧ x ≤ b) ∨ (b ≤ x ∧ x ≤ a)
theorem cell_in {a b : DHex} (ha : smH a) (hb : smH b) (hd : distL a b ≠ 0) {i : Int} (h0 : 0 ≤ i) (hi : i ≤ distL a b) {h : DHex} (hh : h ∈ cellO (a.Q * distL a b + (b.Q - a.Q) * i) (a.R * distL a b + (b.R - a.R) * i) (distL a b)) : betwI h.Q a.Q b.Q ∧ betwI h.R a.R b.R := by
 unfold smH at ha hb
 have e := distO_L a b
 have := allB_at lineB_ok (p := b.Q - a.Q) (r := b.R - a.R) (by omega) (by omega) (by rw [e]; exact hd) h0 (by rw [e]; exact hi)
 unfold lineB at this
 rw [e, List.all_eq_true] at this
 rw [Int.add_comm, Int.mul_comm a.Q, Int.add_comm (a.R * _), Int.mul_comm a.R, cellO_mv _ _ _ _ _ hd] at hh
 obtain ⟨g, hg, rfl⟩ := List.mem_map.1 hh
 have h1 := this g hg
 unfold betw at h1
 unfold mvH betwI
 dsimp only
 rw [Bool.and_eq_true] at h1
 obtain ⟨h1, h2⟩ := h1
 constructor
 ·split at h1 <;> simp only [Bool.and_eq_true, decide_eq_true_eq] at h1 <;> omega
 ·split at h2 <;> simp only [Bool.and_eq_true, decide_eq_true_eq] at h2 <;> omega
def qL (a b n i : Int) : Int := a * n + (b - a) * i
theorem qL_b {a b n i : Int} (ha : 0 ≤ a ∧ a ≤ 9) (hb : 0 ≤ b ∧ b ≤ 9) (hi : 0 ≤ i ∧ i ≤ n) (hn : n ≤ 18) : 0 ≤ qL a b n i ∧ qL a b n i ≤ 9 * n ∧ (0 ≤ a * n ∧ a * n ≤ 162) ∧ (-162 ≤ (b - a) * i ∧ (b - a) * i ≤ 162) := by
 have p1 := Int.mul_nonneg ha.1 (show 0 ≤ n - i by omega)
 have p2 := Int.mul_le_mul_of_nonneg_right ha.2 (show 0 ≤ n - i by omega)
 have p3 := Int.mul_nonneg hb.1 hi.1
 have p4 := Int.mul_le_mul_of_nonneg_right hb.2 hi.1
 have p5 := Int.mul_nonneg ha.1 hi.1
 have p6 := Int.mul_le_mul_of_nonneg_right ha.2 hi.1
 have p7 := Int.mul_nonneg ha.1 (show 0 ≤ n by omega)
 have p8 := Int.mul_le_mul_of_nonneg_right ha.2 (show 0 ≤ n by omega)
 unfold qL
 rw [Int.mul_sub] at p1 p2
 rw [Int.sub_mul]
 omega
theorem colI_map {α β : Type} (f : α → β) (l : List α) : colI (fun _ _ => true) (fun _ x => f x) l = l.map f := by
 have key : ∀ (l : List α) (n : Nat), colN (fun _ _ => true) (fun _ x => f x) n l = l.map f := by
  intro l
  induction l with
  | nil => intro n; rfl
  | cons x l ih => intro n; unfold colN; rw [if_pos rfl, ih]; rfl
 exact key l 0
theorem div_b {n d : Int} (h0 : 0 ≤ n) (h1 : n ≤ 1000000) (hd : 0 < d) : 0 ≤ n / d ∧ n / d ≤ n ∧ 0 ≤ n / d * d ∧ n / d * d ≤ n ∧ n - n / d * d = n % d ∧ 0 ≤ n % d ∧ n % d < d := by
 have e := Int.emod_add_mul_ediv n d
 rw [Int.mul_comm] at e
 have a := Int.emod_nonneg n (show d ≠ 0 by omega)
 have b := Int.emod_lt_of_pos n hd
 have c : 0 ≤ n / d := Int.ediv_nonneg h0 (Int.le_of_lt hd)
 have f := Int.ediv_le_self d h0
 have m := Int.mul_nonneg c (Int.le_of_lt hd)
 omega
theorem hNear_b {n d : Int} (h0 : 0 ≤ n) (h1 : n ≤ 1000000) (hd : 0 < d) : (∀ y ∈ hNearL n d, n / d ≤ y ∧ y ≤ n / d + 1) ∧ (hNearL n d).length ≤ 2 := by
 unfold hNearL
 split
 ·simp; omega
 ·split
  ·simp; omega
  ·simp; omega
theorem c_spec_hNear (n d : Int) (h0 : 0 ≤ n) (h1 : n ≤ 1000000) (hd : 0 < d) (hd2 : d ≤ 1000) : A_spec_hNear n d = some (en_spec_hNear (hNearL n d)) := by
 have hb := div_b h0 h1 hd
 apply e_spec_hNear
 unfold hNearL
 rw [if_neg (by omega), if_neg (by omega), Int.tmod_eq_emod_of_nonneg h0, Int.tdiv_eq_ediv_of_nonneg h0, if_neg (by simp; omega)]
 rw [wrap_id (n := n / d) (by omega) (by omega), wrap_id (n := n / d * d) (by omega) (by omega), wrap_id (n := n - n / d * d) (by omega) (by omega), wrap_id (n := 2 * (n - n / d * d)) (by omega) (by omega), wrap_id (n := n / d + 1) (by omega) (by omega)]
 by_cases h2 : 2 * (n - n / d * d) < d
 ·rw [if_pos (by simpa using h2), if_pos h2]
  exact (give_at (l := [n / d]) ok_cI rfl _).trans rfl
 ·rw [if_neg (by simpa using h2), if_neg h2]
  by_cases h3 : d < 2 * (n - n / d * d)
  ·rw [if_pos (by simpa using h3), if_pos h3]
   exact (give_at (l := [n / d + 1]) ok_cI rfl _).trans rfl
  ·rw [if_neg (by simpa using h3), if_neg h3]
   exact (give_at (l := [n / d, n / d + 1]) ok_cI rfl _).trans rfl
def cellL (a b : DHex) (n i : Int) : List DHex := cellO (qL a.Q b.Q n i) (qL a.R b.R n i) n
theorem cell_len {q r n : Int} (hq : 0 ≤ q ∧ q ≤ 1000) (hr : 0 ≤ r ∧ r ≤ 1000) (hn : 0 < n) : (cellO q r n).length ≤ 2 := by
 unfold cellO
 split
 ·rw [List.length_map]; exact (hNear_b hr.1 (by omega) hn).2
 ·rw [List.length_map]; exact (hNear_b hq.1 (by omega) hn).2
theorem c_spec_hCells (a b : DHex) (i n : Int) (ha : smH a) (hb : smH b) (hn : 1 ≤ n ∧ n ≤ 18) (hi : 0 ≤ i ∧ i ≤ n) : A_spec_hCells a b i n = some (en_spec_hCells (cellL a b n i)) := by
 unfold smH at ha hb
 have q := qL_b (a := a.Q) (b := b.Q) (i := i) (n := n) (by omega) (by omega) hi hn.2
 have r := qL_b (a := a.R) (b := b.R) (i := i) (n := n) (by omega) (by omega) hi hn.2
 apply e_spec_hCells
 unfold cellL cellO
 rw [if_neg (by omega)]
 have e1 : IntKind.wrap .i64 (IntKind.wrap .i64 (a.Q * n) + IntKind.wrap .i64 (IntKind.wrap .i64 (b.Q - a.Q) * i)) = qL a.Q b.Q n i := by
  rw [wrap_id (n := b.Q - a.Q) (by omega) (by omega), wrap_id (n := a.Q * n) (by omega) (by omega), wrap_id (n := (b.Q - a.Q) * i) (by omega) (by omega)]
  exact wrap_id (by have := q; unfold qL at this; omega) (by have := q; unfold qL at this; omega)
 have e2 : IntKind.wrap .i64 (IntKind.wrap .i64 (a.R * n) + IntKind.wrap .i64 (IntKind.wrap .i64 (b.R - a.R) * i)) = qL a.R b.R n i := by
  rw [wrap_id (n := b.R - a.R) (by omega) (by omega), wrap_id (n := a.R * n) (by omega) (by omega), wrap_id (n := (b.R - a.R) * i) (by omega) (by omega)]
  exact wrap_id (by have := r; unfold qL at this; omega) (by have := r; unfold qL at this; omega)
 rw [e1, e2]
 generalize qL a.Q b.Q n i = Q at q
 generalize qL a.R b.R n i = R at r
 have dQ := div_b (n := Q) (d := n) q.1 (by omega) (by omega)
 have dR := div_b (n := R) (d := n) r.1 (by omega) (by omega)
 have dS := div_b (n := Q + R) (d := n) (by omega) (by omega) (by omega)
 rw [Int.tmod_eq_emod_of_nonneg q.1]
 by_cases h : Q % n = 0
 ·rw [if_pos (by simpa using h), if_pos h, cast_of inj_spec_hNear (c_spec_hNear _ _ r.1 (by omega) (by omega) (by omega))]
  have hb := hNear_b (n := R) (d := n) r.1 (by omega) (by omega)
  generalize hNearL R n = l at hb
  rw [← colI_map]
  refine col_loop (fun k acc => L_spec_hCells_L5 acc n Q l l.length k) l (fun _ _ => true) (fun _ y => (⟨Q / n, y⟩ : DHex)) (fun acc => some (en_spec_hCells acc)) ?_ (fun k y acc hy hk hl => ?_) _ rfl
  ·intro acc hl _ h; apply e_spec_hCells_L5
   rw [if_neg (by simp), give_at ok_cHex rfl, ← h]; rfl
  ·intro _ h; apply e_spec_hCells_L5
   rw [if_pos (by simpa using hk), ixA_at sl_cI rfl hy, if_neg (by omega), Int.tdiv_eq_ediv_of_nonneg q.1, wrap_id (n := Q / n) (by omega) (by omega), apR_eq rt_cHex rfl (xs := [⟨Q / n, y⟩]) (Src.row (n := 1) ok_cHex rfl rfl) rfl rfl (by simp; omega) (by simp; omega) rfl, wrap_id (by omega) (by omega)]
   simpa using h
 ·rw [if_neg (by simpa using h), if_neg h, cast_of inj_spec_hNear (c_spec_hNear _ _ q.1 (by omega) (by omega) (by omega))]
  have hb := hNear_b (n := Q) (d := n) q.1 (by omega) (by omega)
  generalize hNearL Q n = l at hb
  rw [← colI_map]
  refine col_loop (fun k acc => L_spec_hCells_L11 acc n Q R l l.length k) l (fun _ _ => true) (fun _ x => if R % n = 0 then (⟨x, R / n⟩ : DHex) else ⟨x, (Q + R) / n - x⟩) (fun acc => some (en_spec_hCells acc)) ?_ (fun k y acc hy hk hl => ?_) _ rfl
  ·intro acc hl _ h; apply e_spec_hCells_L11
   rw [if_neg (by simp), give_at ok_cHex rfl, ← h]; rfl
  ·intro _ h; apply e_spec_hCells_L11
   have hyb := hb.1 y (mem_of_get hy)
   rw [if_pos (by simpa using hk), ixA_at sl_cI rfl hy, if_neg (by omega), Int.tmod_eq_emod_of_nonneg r.1]
   by_cases h2 : R % n = 0
   ·rw [if_pos (by simpa using h2), if_neg (by omega), Int.tdiv_eq_ediv_of_nonneg r.1, wrap_id (n := R / n) (by omega) (by omega), apR_eq rt_cHex rfl (xs := [⟨y, R / n⟩]) (Src.row (n := 1) ok_cHex rfl rfl) rfl rfl (by simp; omega) (by simp; omega) rfl, wrap_id (by omega) (by omega)]
    simpa [h2] using h
   ·rw [if_neg (by simpa using h2), if_neg (by omega), wrap_id (n := Q + R) (by omega) (by omega), Int.tdiv_eq_ediv_of_nonneg (by omega), wrap_id (n := (Q + R) / n) (by omega) (by omega), wrap_id (n := (Q + R) / n - y) (by omega) (by omega), apR_eq rt_cHex rfl (xs := [⟨y, (Q + R) / n - y⟩]) (Src.row (n := 1) ok_cHex rfl rfl) rfl rfl (by simp; omega) (by simp; omega) rfl, wrap_id (by omega) (by omega)]
    simpa [h2] using h
def lineL (a b : DHex) : List (List DHex) := if distL a b = 0 then [[a]] else (List.range ((distL a b).toNat + 1)).map fun (i : Nat) => cellL a b (distL a b) i
theorem dist18 {a b : DHex} (ha : smH a) (hb : smH b) : 0 ≤ distL a b ∧ distL a b ≤ 18 := by
 refine ⟨distL_nn a b, ?_⟩
 unfold smH at ha hb
 unfold distL absI
 rw [Int.tdiv_eq_ediv_of_nonneg (by split <;> split <;> split <;> omega)]
 split <;> split <;> split <;> omega
theorem smH_B {h : DHex} (hs : smH h) : hexB h := by unfold smH at hs; unfold hexB; omega
theorem c_spec_hLine (a b : DHex) (ha : smH a) (hb : smH b) : A_spec_hLine a b = some (en_spec_hLine (lineL a b)) := by
 have hd := dist18 ha hb
 apply e_spec_hLine
 unfold lineL
 rw [cast_of inj_spec_hDistance (c_spec_hDistance _ _ (smH_B ha) (smH_B hb))]
 by_cases h : distL a b = 0
 ·rw [if_pos (by simpa using h), if_pos h]
  rw [bsA_one ok_cLHex (by omega) (by omega) (by obtain ⟨et, z, h1, h2, _, h3, h4⟩ := rt_cLHex.ex; exact ⟨et, z, h1, h2, h3, h4⟩) (a := [a]) rfl rfl (haC (i1 := [.v 14]) (i2 := []) (haF (l := [a]) (r := []) ok_cHex rfl (Nat.le_refl _)) rfl rfl) rfl rfl]
  exact (give_at (l := [[a]]) ok_cLHex rfl _).trans rfl
 ·rw [if_neg (by simpa using h), if_neg h]
  obtain ⟨N, hN⟩ : ∃ N : Nat, distL a b = N := ⟨(distL a b).toNat, by omega⟩
  rw [hN] at hd h ⊢
  rw [show ((N : Int)).toNat = N by omega]
  have key : ∀ (m k : Nat) (acc : List (List DHex)), k + m = N + 1 → acc.length ≤ k → L_spec_hLine_L6 acc a b N k = some (en_spec_hLine (acc ++ (List.range' k m).map fun (i : Nat) => cellL a b N i)) := by
   intro m
   induction m with
   | zero =>
    intro k acc hk hl
    apply e_spec_hLine_L6
    rw [if_neg (by simp; omega), give_at ok_cLHex rfl]
    simp [en_spec_hLine]
   | succ m ih =>
    intro k acc hk hl
    apply e_spec_hLine_L6
    rw [if_pos (by simp; omega), cast_of inj_spec_hCells (c_spec_hCells _ _ _ _ ha hb (by omega) (by omega)), apR_eq rt_cLHex rfl (xs := [cellL a b N k]) (Src.row (n := 1) ok_cLHex rfl rfl) rfl rfl (by simp; omega) (by simp; omega) rfl, wrap_id (n := (k : Int) + 1) (by omega) (by omega)]
    have := ih (k + 1) (acc ++ [cellL a b N k]) (by omega) (by simp; omega)
    simp only [Int.natCast_add, Int.natCast_one] at this
    rw [this, List.range'_succ, List.map_cons, List.append_assoc]
    rfl
  have := key (N + 1) 0 [] (by omega) (by simp)
  rw [List.range_eq_range']
  exact this
def cellsL (m : DMap) (a b : DHex) : List (List Int) := (((lineL a b).drop 1).take ((lineL a b).length - 2)).map fun c => c.map (idxL m)
theorem l_spec_vCells (b : DBoard) (hm : MapB b.Map) (line : List (List DHex)) (hl : line.length ≤ 30) (hc : ∀ c ∈ line, c.length ≤ 10) : ∀ (m k : Nat) (acc : List (List Int)), 1 ≤ k → (k + m + 1 = line.length ∨ (m = 0 ∧ line.length ≤ k + 1)) → acc.length ≤ k →
  L_spec_vCells_L4 acc b line k = some (en_spec_vCells (acc ++ ((line.drop k).take m).map fun c => c.map (idxL b.Map))) := by
 intro m
 induction m with
 | zero =>
  intro k acc h1 hk ha
  apply e_spec_vCells_L4
  rw [wrap_id (by omega) (by omega), if_neg (by simp; omega), give_at ok_cLI rfl]
  simp [en_spec_vCells]
 | succ m ih =>
  intro k acc h1 hk ha
  have hk2 : k < line.length := by omega
  have hx : line[k]? = some line[k] := List.getElem?_eq_getElem hk2
  have hcl := hc _ (mem_of_get hx)
  apply e_spec_vCells_L4
  rw [wrap_id (by omega) (by omega), if_pos (by simp; omega), ixA_at sl_cLHex rfl hx, drop_at hx, List.take_succ_cons, List.map_cons]
  generalize line[k] = c at hcl
  have key : ∀ (p j : Nat) (acc2 : List Int), j + p = c.length → acc2.length ≤ j → L_spec_vCells_L8 acc acc2 b line k c c.length j = some (en_spec_vCells (acc ++ (acc2 ++ (c.drop j).map (idxL b.Map)) :: ((line.drop (k + 1)).take m).map fun c => c.map (idxL b.Map))) := by
   intro p
   induction p with
   | zero =>
    intro j acc2 hj ha2
    apply e_spec_vCells_L8
    rw [if_neg (by simp; omega), List.drop_eq_nil_of_le (by omega), List.map_nil, List.append_nil]
    rw [bsA_one ok_cLI (by omega) (by omega) (by obtain ⟨et, z, h1, h2, _, h3, h4⟩ := rt_cLI.ex; exact ⟨et, z, h1, h2, h3, h4⟩) (a := acc2) rfl rfl (haC (i1 := [.h 10 0]) (i2 := []) (haF (r := []) ok_cI (by simp; rfl) (Nat.le_refl _)) rfl rfl) rfl rfl]
    rw [apR_eq rt_cLI rfl (xs := [acc2]) (Src.row (n := 1) ok_cLI rfl rfl) rfl rfl (by simp; omega) (by simp; omega) rfl, wrap_id (n := (k : Int) + 1) (by omega) (by omega)]
    have := ih (k + 1) (acc ++ [acc2]) (by omega) (by omega) (by simp; omega)
    simp only [Int.natCast_add, Int.natCast_one] at this
    rw [this, List.append_assoc]
    rfl
   | succ p ihp =>
    intro j acc2 hj ha2
    have hj2 : j < c.length := by omega
    have hy : c[j]? = some c[j] := List.getElem?_eq_getElem hj2
    have hib := idxL_b hm c[j]
    apply e_spec_vCells_L8
    rw [if_pos (by simp; omega), ixA_at sl_cHex rfl hy, cast_of inj_spec_mIndex (c_spec_mIndex _ _ hm), apR_eq rt_cI rfl (xs := [idxL b.Map c[j]]) (Src.row (n := 1) ok_cI rfl rfl) rfl rfl (by simp; omega) (by simp; omega) rfl, wrap_id (n := (j : Int) + 1) (by omega) (by omega)]
    have := ihp (j + 1) (acc2 ++ [idxL b.Map c[j]]) (by omega) (by simp; omega)
    simp only [Int.natCast_add, Int.natCast_one] at this
    rw [this, drop_at hy, List.map_cons, List.append_assoc]
    rfl
  have := key c.length 0 [] (by omega) (by simp)
  simp only [Int.natCast_zero, Int.ofNat_zero, List.drop_zero, List.nil_append] at this
  exact this
theorem hexL_in {b : DBoard} (g : BoardG b) {i : Int} (h0 : 0 ≤ i) (h1 : i < b.Map.Width * b.Map.Height) : 0 ≤ (hexL b.Map i).Q ∧ (hexL b.Map i).Q < b.Map.Width ∧ 0 ≤ (hexL b.Map i).R ∧ (hexL b.Map i).R < b.Map.Height := by
 have hw := g.w0
 unfold hexL
 rw [Int.tmod_eq_emod_of_nonneg h0, Int.tdiv_eq_ediv_of_nonneg h0]
 dsimp only
 have a := Int.emod_nonneg i (show b.Map.Width ≠ 0 by omega)
 have c := Int.emod_lt_of_pos i hw
 have d : 0 ≤ i / b.Map.Width := Int.ediv_nonneg h0 (Int.le_of_lt hw)
 have e : i / b.Map.Width < b.Map.Height := Int.ediv_lt_of_lt_mul hw (by rwa [Int.mul_comm] at h1)
 omega
theorem hexL_smH {b : DBoard} (g : BoardG b) {i : Int} (h0 : 0 ≤ i) (h1 : i < b.Map.Width * b.Map.Height) : smH (hexL b.Map i) := by
 have := hexL_in g h0 h1
 have := g.w1
 have := g.h1
 unfold smH
 omega
theorem line_mem {a b : DHex} {c : List DHex} (h : c ∈ lineL a b) : (distL a b = 0 ∧ c = [a]) ∨ (distL a b ≠ 0 ∧ ∃ i : Int, 0 ≤ i ∧ i ≤ distL a b ∧ c = cellL a b (distL a b) i) := by
 have hd := distL_nn a b
 unfold lineL at h
 split at h
 ·rename_i h0
  simp at h
  exact .inl ⟨h0, h⟩
 ·rename_i h0
  obtain ⟨i, hi, rfl⟩ := List.mem_map.1 h
  rw [List.mem_range] at hi
  exact .inr ⟨h0, i, by omega, by omega, rfl⟩
theorem line_cell_len {a b : DHex} (ha : smH a) (hb : smH b) {c : List DHex} (h : c ∈ lineL a b) : c.length ≤ 2 := by
 rcases line_mem h with ⟨_, rfl⟩ | ⟨h0, i, hi0, hi1, rfl⟩
 ·simp
 ·have hd := dist18 ha hb
  unfold smH at ha hb
  have q := qL_b (a := a.Q) (b := b.Q) (i := i) (n := distL a b) (by omega) (by omega) ⟨hi0, hi1⟩ hd.2
  have r := qL_b (a := a.R) (b := b.R) (i := i) (n := distL a b) (by omega) (by omega) ⟨hi0, hi1⟩ hd.2
  exact cell_len (by omega) (by omega) (by omega)
theorem line_len {a b : DHex} (ha : smH a) (hb : smH b) : 1 ≤ (lineL a b).length ∧ (lineL a b).length ≤ 19 := by
 have hd := dist18 ha hb
 unfold lineL
 split
 ·simp
 ·rw [List.length_map, List.length_range]; omega
theorem c_spec_vCells (b : DBoard) (i k : Int) (g : BoardG b) (hi : 0 ≤ i ∧ i < b.Map.Width * b.Map.Height) (hk : 0 ≤ k ∧ k < b.Map.Width * b.Map.Height) : A_spec_vCells b i k = some (en_spec_vCells (cellsL b.Map (hexL b.Map i) (hexL b.Map k))) := by
 have ha := g.s.area
 have s1 := hexL_smH g hi.1 hi.2
 have s2 := hexL_smH g hk.1 hk.2
 have hl := line_len s1 s2
 apply e_spec_vCells
 unfold cellsL
 rw [cast_of inj_spec_mHex (c_spec_mHex _ _ g.s.b (by unfold sm; omega)), cast_of inj_spec_mHex (c_spec_mHex _ _ g.s.b (by unfold sm; omega)), cast_of inj_spec_hLine (c_spec_hLine _ _ s1 s2)]
 exact l_spec_vCells b g.s.b _ (by omega) (fun c hc => by have := line_cell_len s1 s2 hc; omega) ((lineL (hexL b.Map i) (hexL b.Map k)).length - 2) 1 [] (by omega) (by omega) (by simp)
theorem cells_in {b : DBoard} (g : BoardG b) {i k : Int} (hi : 0 ≤ i ∧ i < b.Map.Width * b.Map.Height) (hk : 0 ≤ k ∧ k < b.Map.Width * b.Map.Height) {c : List Int} (hc : c ∈ cellsL b.Map (hexL b.Map i) (hexL b.Map k)) : c.length ≤ 2 ∧ ∀ x ∈ c, 0 ≤ x ∧ x < b.Map.Width * b.Map.Height := by
 have s1 := hexL_smH g hi.1 hi.2
 have s2 := hexL_smH g hk.1 hk.2
 have i1 := hexL_in g hi.1 hi.2
 have i2 := hexL_in g hk.1 hk.2
 unfold cellsL at hc
 obtain ⟨d, hd, rfl⟩ := List.mem_map.1 hc
 have hd2 := List.mem_of_mem_drop (List.mem_of_mem_take hd)
 refine ⟨by rw [List.length_map]; exact line_cell_len s1 s2 hd2, fun x hx => ?_⟩
 obtain ⟨h, hh, rfl⟩ := List.mem_map.1 hx
 have hin : 0 ≤ h.Q ∧ h.Q < b.Map.Width ∧ 0 ≤ h.R ∧ h.R < b.Map.Height := by
  rcases line_mem hd2 with ⟨_, rfl⟩ | ⟨h0, t, ht0, ht1, rfl⟩
  ·simp at hh; subst hh; exact i1
  ·have := cell_in s1 s2 h0 ht0 ht1 hh
   unfold betwI at this
   omega
 refine ⟨?_, idxL_area g.w0 g.h0 h⟩
 unfold idxL
 rw [if_pos (by simp only [Bool.and_eq_true, inB_iff]; omega)]
 have := Int.mul_nonneg hin.2.2.1 (show 0 ≤ b.Map.Width by omega)
 omega
def terO (b : DBoard) (x : Int) : DTerrain := ((getI b.Map.Terrain x).bind fun t => getI b.Rules.Terrains t).getD ⟨.empty, [], 0, 0, false⟩
theorem ter_h {b : DBoard} (h : boardB b = true) : ∀ t ∈ b.Rules.Terrains, 0 ≤ t.Height ∧ t.Height ≤ 3 := by
 unfold boardB rulesB mapB at h
 simp only [Bool.and_eq_true, inB_iff, decide_eq_true_eq, List.all_eq_true] at h
 obtain ⟨⟨ht, hk, hte, hki, hre⟩, _⟩ := h
 intro t htm
 obtain ⟨i, hi⟩ := List.getElem?_of_mem htm
 have := alli_get hte i t hi
 unfold terrainB at this
 simp only [Bool.and_eq_true, List.all_eq_true, inB_iff, beq_iff_eq] at this
 have := this.1.2.2.2.1
 omega
theorem ter_ex {b : DBoard} (g : BoardG b) {x : Int} (h0 : 0 ≤ x) (h1 : x < b.Map.Width * b.Map.Height) : ∃ t, getI b.Map.Terrain x = some t ∧ getI b.Rules.Terrains t = some (terO b x) ∧ 0 ≤ (terO b x).Height ∧ (terO b x).Height ≤ 3 := by
 have ha := g.area
 obtain ⟨t, ht⟩ := getI_ex (l := b.Map.Terrain) h0 (by omega)
 obtain ⟨n, _, hn, _⟩ := getI_some ht
 have htb := g.ter t (mem_of_get hn)
 obtain ⟨y, hy⟩ := getI_ex (l := b.Rules.Terrains) htb.1 htb.2
 obtain ⟨m, _, hm, _⟩ := getI_some hy
 have e : terO b x = y := by unfold terO; rw [ht, Option.bind_some, hy]; rfl
 rw [e]
 exact ⟨t, ht, hy, ter_h g.ok y (mem_of_get hm)⟩
def hgtL (b : DBoard) (x : Int) : Int := if (terO b x).Blocks = true then (terO b x).Height + 1 else (terO b x).Height
def blkB (b : DBoard) (i k x : Int) : Bool := decide ((if (terO b k).Height < (terO b i).Height then (terO b i).Height else (terO b k).Height) < hgtL b x)
def sightL (b : DBoard) (i k : Int) : Int := if (cellsL b.Map (hexL b.Map i) (hexL b.Map k)).any (fun c => c.all (blkB b i k)) = true then 2 else if (cellsL b.Map (hexL b.Map i) (hexL b.Map k)).any (fun c => c.any (blkB b i k)) = true then 1 else 0
def onB (b : DBoard) (i : Int) : Prop := 0 ≤ i ∧ i < b.Map.Width * b.Map.Height
section
variable (b : DBoard) (g : BoardG b)
include g
theorem c_spec_vBlocks (i k x : Int) (hi : onB b i) (hk : onB b k) (hx : onB b x) : A_spec_vBlocks b i k x = some (en_spec_vBlocks (blkB b i k x)) := by
 obtain ⟨t1, a1, a2, a3, a4⟩ := ter_ex g hi.1 hi.2
 obtain ⟨t2, b1, b2, b3, b4⟩ := ter_ex g hk.1 hk.2
 obtain ⟨t3, c1, c2, c3, c4⟩ := ter_ex g hx.1 hx.2
 have hh : A_spec_vHeight b x = some (en_spec_vHeight (hgtL b x)) := by
  apply e_spec_vHeight
  unfold hgtL
  rw [cast_of inj_spec_bTerrain (c_spec_bTerrain _ _ c1 c2)]
  cases (terO b x).Blocks with
  | true => rw [if_pos rfl, if_pos rfl, wrap_id (by omega) (by omega)]; rfl
  | false => rfl
 apply e_spec_vBlocks
 unfold blkB
 rw [cast_of inj_spec_vHeight hh, cast_of inj_spec_bTerrain (c_spec_bTerrain _ _ a1 a2), cast_of inj_spec_bTerrain (c_spec_bTerrain _ _ b1 b2), cast_of inj_spec_l1Most (c_spec_l1Most _ _)]
 rfl
theorem c_spec_vCount (i k : Int) (hi : onB b i) (hk : onB b k) (l : List Int) (hl : l.length ≤ 100) (hx : ∀ x ∈ l, onB b x) : A_spec_vCount b i k l = some (en_spec_vCount ((l.filter (blkB b i k)).length : Int)) := by
 have key : ∀ (m j : Nat) (n : Int), j + m = l.length → 0 ≤ n → n ≤ j → L_spec_vCount_L3 b i k n l l.length j = some (en_spec_vCount (n + (((l.drop j).filter (blkB b i k)).length : Int))) := by
  intro m
  induction m with
  | zero =>
   intro j n hj h0 h1
   apply e_spec_vCount_L3
   rw [if_neg (by simp; omega), List.drop_eq_nil_of_le (by omega)]
   simp [en_spec_vCount]
  | succ m ih =>
   intro j n hj h0 h1
   have hj2 : j < l.length := by omega
   have hy : l[j]? = some l[j] := List.getElem?_eq_getElem hj2
   apply e_spec_vCount_L3
   rw [if_pos (by simp; omega), ixA_at sl_cI rfl hy, cast_of inj_spec_vBlocks (c_spec_vBlocks b g _ _ _ hi hk (hx _ (mem_of_get hy))), drop_at hy, List.filter_cons, wrap_id (n := (j : Int) + 1) (by omega) (by omega), wrap_id (n := n + 1) (by omega) (by omega)]
   have ih1 := fun n h h' => ih (j + 1) n (by omega) h h'
   simp only [Int.natCast_add, Int.natCast_one] at ih1
   cases blkB b i k l[j] with
   | true =>
    rw [if_pos rfl, if_pos rfl, ih1 _ (by omega) (by omega), List.length_cons]
    congr 2
    omega
   | false => rw [if_neg (by simp), if_neg (by simp), ih1 _ (by omega) (by omega)]
 apply e_spec_vCount
 have := key l.length 0 0 (by omega) (by omega) (by omega)
 simp only [Int.natCast_zero, Int.ofNat_zero, List.drop_zero, Int.zero_add] at this
 exact this
omit g in
theorem cnt_all (q : Int → Bool) (l : List Int) : (((l.filter q).length : Int) == (l.length : Int)) = l.all q := by
 rw [Bool.eq_iff_iff, beq_iff_eq, List.all_eq_true]
 constructor
 ·intro h x hx
  have := List.length_filter_eq_length_iff.1 (by omega : (l.filter q).length = l.length)
  exact this x hx
 ·intro h
  have := List.length_filter_eq_length_iff.2 h
  omega
omit g in
theorem cnt_any (q : Int → Bool) (l : List Int) : decide (0 < ((l.filter q).length : Int)) = l.any q := by
 rw [Bool.eq_iff_iff, decide_eq_true_eq, List.any_eq_true]
 constructor
 ·intro h
  obtain ⟨x, hx⟩ := List.exists_mem_of_length_pos (by omega : 0 < (l.filter q).length)
  rw [List.mem_filter] at hx
  exact ⟨x, hx⟩
 ·rintro ⟨x, hx, hq⟩
  have := List.length_pos_of_mem (List.mem_filter.2 ⟨hx, hq⟩)
  omega
theorem cellsL_len (i k : Int) (hi : onB b i) (hk : onB b k) : (cellsL b.Map (hexL b.Map i) (hexL b.Map k)).length ≤ 19 := by
 have := line_len (hexL_smH g hi.1 hi.2) (hexL_smH g hk.1 hk.2)
 unfold cellsL
 rw [List.length_map, List.length_take, List.length_drop]
 omega
theorem c_spec_vCode (i k : Int) (hi : onB b i) (hk : onB b k) : A_spec_vCode b i k = some (en_spec_vCode (sightL b i k)) := by
 have hln := cellsL_len b g i k hi hk
 have hv := c_spec_vCells b i k g hi hk
 have hin := fun c hc => cells_in g hi hk (c := c) hc
 have hf : A_spec_vFirst b i k = some (en_spec_vFirst (findI (fun c => c.all (blkB b i k)) (cellsL b.Map (hexL b.Map i) (hexL b.Map k)))) := by
  apply e_spec_vFirst
  rw [cast_of inj_spec_vCells hv]
  generalize cellsL b.Map (hexL b.Map i) (hexL b.Map k) = l at hln hin
  refine idx_loop (fun j => L_spec_vFirst_L2 b i k l l.length j) l (fun c => c.all (blkB b i k)) (fun j => some (en_spec_vFirst j)) ?_ (fun j c hc hj => ?_) _ rfl
  ·intro _ h; apply e_spec_vFirst_L2
   rw [if_neg (by simp), ← h]; rfl
  ·intro _ h; apply e_spec_vFirst_L2
   have hcc := hin c (mem_of_get hc)
   rw [if_pos (by simpa using hj), ixA_at sl_cLI rfl hc, cast_of inj_spec_vCount (c_spec_vCount b g i k hi hk c (by omega) (fun x hx => hcc.2 x hx)), cnt_all, wrap_id (by omega) (by omega), ← h]
   rfl
 apply e_spec_vCode
 unfold sightL
 rw [cast_of inj_spec_vFirst hf, findI_any]
 by_cases h2 : (cellsL b.Map (hexL b.Map i) (hexL b.Map k)).any (fun c => c.all (blkB b i k)) = true
 ·rw [if_pos h2, if_pos h2]; rfl
 ·rw [if_neg h2, if_neg h2, cast_of inj_spec_vCells hv]
  generalize cellsL b.Map (hexL b.Map i) (hexL b.Map k) = l at hln hin
  have := any_loop (fun j => L_spec_vCode_L4 b i k l l.length j) l (fun c => c.any (blkB b i k)) (some (en_spec_vCode 1)) (some (en_spec_vCode 0)) ?_ (fun j c hc hj => ?_)
  ·refine this _ ?_
   cases l.any (fun c => c.any (blkB b i k)) <;> rfl
  ·intro _ h; apply e_spec_vCode_L4
   rw [if_neg (by simp), ← h]; rfl
  ·intro _ h; apply e_spec_vCode_L4
   have hcc := hin c (mem_of_get hc)
   rw [if_pos (by simpa using hj), ixA_at sl_cLI rfl hc, cast_of inj_spec_vCount (c_spec_vCount b g i k hi hk c (by omega) (fun x hx => hcc.2 x hx)), cnt_any, wrap_id (by omega) (by omega), ← h]
   rfl
end
def nearHL (b : DBoard) (i r : Int) : List Int := colI (fun k _ => decide (distL (hexL b.Map i) (hexL b.Map k) ≤ r)) (fun k _ => (k : Int)) b.Map.Terrain
def seenBy (b : DBoard) (kind i : Int) : List Int := (nearHL b i (kindO b kind).View).filter fun k => decide (sightL b i k ≤ 1)
theorem near_on {b : DBoard} (g : BoardG b) {i r k : Int} (h : k ∈ nearHL b i r) : onB b k := by
 obtain ⟨j, x, hj, _, rfl⟩ := mem_colI.1 h
 have := (List.getElem?_eq_some_iff.1 hj).1
 have := g.area
 exact ⟨by omega, by omega⟩
theorem near_len {b : DBoard} (i r : Int) : (nearHL b i r).length ≤ b.Map.Terrain.length := colI_len _ _ _
section
variable (b : DBoard) (g : BoardG b) (hn : MapN b.Map)
include g hn
theorem c_spec_mNear (i r : Int) (hi : onB b i) : A_spec_mNear b.Map i r = some (en_spec_mNear (nearHL b i r)) := by
 have ha := g.area
 have hmt := hn.t
 have s1 := hexL_smH g hi.1 hi.2
 apply e_spec_mNear
 unfold nearHL
 refine col_loop (fun k acc => L_spec_mNear_L3 acc b.Map i r k) b.Map.Terrain (fun k _ => decide (distL (hexL b.Map i) (hexL b.Map k) ≤ r)) (fun k _ => (k : Int)) (fun acc => some (en_spec_mNear acc)) ?_ (fun k y acc hy hk hl => ?_) _ rfl
 ·intro acc hl _ h; apply e_spec_mNear_L3
  rw [cast_of inj_spec_mSize (c_spec_mSize _), wrap_id (n := b.Map.Width * b.Map.Height) (by omega) (by omega), if_neg (by simp; omega), give_at ok_cI rfl, ← h]; rfl
 ·intro _ h; apply e_spec_mNear_L3
  have s2 := hexL_smH g (i := (k : Int)) (by omega) (by omega)
  rw [cast_of inj_spec_mSize (c_spec_mSize _), wrap_id (n := b.Map.Width * b.Map.Height) (by omega) (by omega), if_pos (by simp; omega), cast_of inj_spec_mHex (c_spec_mHex _ _ g.s.b (by have := hi.1; have := hi.2; unfold sm; omega)), cast_of inj_spec_mHex (c_spec_mHex _ _ g.s.b (by unfold sm; omega)), cast_of inj_spec_hDistance (c_spec_hDistance _ _ (smH_B s1) (smH_B s2)), apR_eq rt_cI rfl (xs := [(k : Int)]) (Src.row (n := 1) ok_cI rfl rfl) rfl rfl (by simp; omega) (by simp; omega) rfl, wrap_id (n := (k : Int) + 1) (by omega) (by omega)]
  exact h
theorem c_spec_vBy (kind i : Int) (hi : onB b i) (hk : getI b.Rules.Kinds kind = some (kindO b kind)) : A_spec_vBy b kind i = some (en_spec_vBy (seenBy b kind i)) := by
 have hmt := hn.t
 have hln := near_len (b := b) i (kindO b kind).View
 have hon := fun k hk => near_on g (i := i) (r := (kindO b kind).View) (k := k) hk
 apply e_spec_vBy
 rw [ixA_get sl_cKind _ _ hk]
 have hs : A_spec_vSeen b i (kindO b kind).View 1 = some (en_spec_vSeen (seenBy b kind i)) := by
  apply e_spec_vSeen
  unfold seenBy
  rw [cast_of inj_spec_mNear (c_spec_mNear b g hn _ _ hi)]
  generalize nearHL b i (kindO b kind).View = l at hln hon
  rw [← col_filter]
  refine col_loop (fun k acc => L_spec_vSeen_L3 acc b i 1 l l.length k) l (fun _ k => decide (sightL b i k ≤ 1)) (fun _ k => k) (fun acc => some (en_spec_vSeen acc)) ?_ (fun k y acc hy hk hl => ?_) _ rfl
  ·intro acc hl _ h; apply e_spec_vSeen_L3
   rw [if_neg (by simp), give_at ok_cI rfl, ← h]; rfl
  ·intro _ h; apply e_spec_vSeen_L3
   rw [if_pos (by simpa using hk), ixA_at sl_cI rfl hy, cast_of inj_spec_vCode (c_spec_vCode b g _ _ hi (hon _ (mem_of_get hy))), apR_eq rt_cI rfl (xs := [y]) (Src.row (n := 1) ok_cI rfl rfl) rfl rfl (by simp; omega) (by simp; omega) rfl, wrap_id (n := (k : Int) + 1) (by omega) (by omega)]
   exact h
 rw [cast_of inj_spec_vSeen hs]
 rfl
end
def bAtB (b : DBoard) (kind i : Int) : Bool := boardB b && (inB 0 ((b.Rules.Kinds.length : Int) - 1) kind && inB 0 (b.Map.Width * b.Map.Height - 1) i)
theorem c_spec_bAt (b : DBoard) (kind i : Int) (hn : BoardN b) : A_spec_bAt b kind i = some (en_spec_bAt (bAtB b kind i)) := by
 apply e_spec_bAt
 unfold bAtB
 rw [cast_of inj_spec_bGood (c_spec_bGood _ hn)]
 cases hb : boardB b with
 | false => rfl
 | true =>
  have ha := (BoardG.of hb).s.area
  have hk := hn.r.k
  simp only [kk_spec_l1In]
  rw [if_pos trivial, wrap_id (n := (b.Rules.Kinds.length : Int) - 1) (by omega) (by omega)]
  cases inB 0 ((b.Rules.Kinds.length : Int) - 1) kind with
  | false => simp [en_spec_bAt]
  | true =>
   rw [if_pos rfl, cast_of inj_spec_mSize (c_spec_mSize _), wrap_id (n := b.Map.Width * b.Map.Height) (by omega) (by omega), wrap_id (n := b.Map.Width * b.Map.Height - 1) (by omega) (by omega)]
   simp [en_spec_bAt]
def seenByL (b : DBoard) (kind i : Int) : List Int × Bool := if bAtB b kind i then (seenBy b kind i, true) else ([], false)
theorem c_spec_SeenBy (b : DBoard) (kind i : Int) (hn : BoardN b) : A_spec_SeenBy b kind i = some (en_spec_SeenBy (seenByL b kind i)) := by
 apply e_spec_SeenBy
 unfold seenByL
 rw [cast_of inj_spec_bAt (c_spec_bAt _ _ _ hn)]
 cases h : bAtB b kind i with
 | false => rfl
 | true =>
  have h2 := h
  unfold bAtB at h2
  rw [Bool.and_eq_true, Bool.and_eq_true, inB_iff, inB_iff] at h2
  have g := BoardG.of h2.1
  rw [if_neg (by simp), cast_of inj_spec_vBy (c_spec_vBy b g hn.m _ _ ⟨h2.2.2.1, by omega⟩ (kindq h2.2.1.1 (by omega)))]
  rfl
def spotsL (b : DBoard) (x : DUnit) : List Int := (seenByL b x.Kind x.At).1
theorem c_spec_fgSpots (b : DBoard) (x : DUnit) (hn : BoardN b) : A_spec_fgSpots b x = some (en_spec_fgSpots (spotsL b x)) := by
 apply e_spec_fgSpots
 unfold spotsL
 rw [cast_of inj_spec_SeenBy (c_spec_SeenBy _ _ _ hn)]
 rfl
theorem stE {α γ : Type} {G : Cfg} {c : α → List AV} {e : Nat} (hc : COk c e) (he : 0 < e) {σ : Store} {id : Id} {fr nest : Bool} {l : List α} (hb : σ.get? id = some (rowB fr nest e c l)) {ty : TypeId} (hn : szT G.P ty = some e) {j : Nat} (hj : j < l.length) {off : Nat} (ho : off = j * e) {y : α} {x : AV}
  (hx : x.cellOk = true) (hxc : x.cells = c y) (hf : ∀ z, z ∈ c y → z.flat = true ∧ z ≠ .emp) (k : List α → Option γ) : stA G c σ id (rowB fr nest e c l) ty (.ptr id none off) x k = k (l.set j y) := by
 have hle : j * e + e ≤ l.length * e := by
  have : (j + 1) * e ≤ l.length * e := Nat.mul_le_mul_right _ hj
  rw [Nat.add_mul] at this
  omega
 refine stA_eq hc hb rfl rfl hn hx (by rw [hxc]; exact hf) (by rw [hxc]; exact hc.len y) (by rw [ho]; exact hle) ?_ he k
 have := putAt_elem hc.len (List.getElem?_eq_getElem hj) (f := 0) (xs := c y) (y' := y) (by rw [hc.len]; omega) (by unfold putAt; rw [List.take_zero, List.nil_append, Nat.zero_add, List.drop_eq_nil_of_le (by rw [hc.len, hc.len]; exact Nat.le_refl _), List.append_nil])
 rw [hxc, ho]
 exact this
theorem unit_flat (y : DUnit) : ∀ z, z ∈ cUnit y → z.flat = true ∧ z ≠ .emp := by
 intro z hz
 unfold cUnit at hz
 simp only [List.mem_cons, List.not_mem_nil, or_false] at hz
 rcases hz with h | h | h | h <;> subst h <;> exact ⟨rfl, by simp⟩
theorem spots_le (b : DBoard) (x : DUnit) : (spotsL b x).length ≤ 100 := by
 unfold spotsL seenByL
 split
 ·rename_i h
  unfold bAtB at h
  rw [Bool.and_eq_true] at h
  have := (area_b (BoardG.of h.1)).2
  unfold seenBy
  have h1 := List.length_filter_le (fun k => decide (sightL b x.At k ≤ 1)) (nearHL b x.At (kindO b x.Kind).View)
  have h2 := near_len (b := b) x.At (kindO b x.Kind).View
  dsimp only
  omega
 ·simp
section
variable (b : DBoard) (s : DState) (hn : BoardN b) (hs : s.Units.length ≤ 20)
include hn hs
theorem l_spec_fgSeen_L6 (v : List Int) (k : Nat) (hk : ∀ out : List Int, out.length ≤ 100 * (k + 1) → OK (L_spec_fgSeen_L3_1 out v b s 0 out.length out.length v.length ((k : Int) + 1)) fun r => ∃ l, r = en_spec_fgSeen l ∧ l.length ≤ 2000) (hk20 : k < 20)
  (w : List Int) (hw : w.length ≤ 100) : ∀ (p j : Nat) (out : List Int), j + p = w.length → out.length ≤ 100 * k + j → OK (L_spec_fgSeen_L6 out v b s 0 out.length out.length v.length k w w.length j) fun r => ∃ l, r = en_spec_fgSeen l ∧ l.length ≤ 2000 := by
 intro p
 induction p with
 | zero =>
  intro j out hj ho
  suffices go : OK (P_spec_fgSeen_L6 out v b s 0 out.length out.length v.length k w w.length j) fun r => ∃ l, r = en_spec_fgSeen l ∧ l.length ≤ 2000 by
   obtain ⟨r, q1, q2⟩ := go
   exact ⟨r, e_spec_fgSeen_L6 _ _ _ _ _ _ _ _ _ _ _ _ _ q1, q2⟩
  unfold P_spec_fgSeen_L6
  rw [if_neg (by simp; omega), wrap_id (n := (k : Int) + 1) (by omega) (by omega)]
  exact hk out (by omega)
 | succ p ih =>
  intro j out hj ho
  suffices go : OK (P_spec_fgSeen_L6 out v b s 0 out.length out.length v.length k w w.length j) fun r => ∃ l, r = en_spec_fgSeen l ∧ l.length ≤ 2000 by
   obtain ⟨r, q1, q2⟩ := go
   exact ⟨r, e_spec_fgSeen_L6 _ _ _ _ _ _ _ _ _ _ _ _ _ q1, q2⟩
  unfold P_spec_fgSeen_L6
  have hj2 : j < w.length := by omega
  rw [if_pos (by simp; omega), ixA_at sl_cI rfl (List.getElem?_eq_getElem hj2), wrap_id (n := (j : Int) + 1) (by omega) (by omega)]
  refine ok_spec_l1Put out _ (by omega) ?_ (fun l' hl' => ?_)
  ·have := ih (j + 1) out (by omega) (by omega)
   simp only [Int.natCast_add, Int.natCast_one] at this
   exact this
  ·have := ih (j + 1) l' (by omega) (by omega)
   simp only [Int.natCast_add, Int.natCast_one] at this
   exact this
theorem l_spec_fgSeen (v : List Int) (hv : v.length ≤ 20) (hu : ∀ k ∈ v, ∃ u, getI s.Units k = some u) : ∀ (m k : Nat) (out : List Int), k + m = v.length → out.length ≤ 100 * k →
  OK (L_spec_fgSeen_L3_1 out v b s 0 out.length out.length v.length k) fun r => ∃ l, r = en_spec_fgSeen l ∧ l.length ≤ 2000 := by
 intro m
 induction m with
 | zero =>
  intro k out hk ho
  suffices go : OK (P_spec_fgSeen_L3_1 out v b s 0 out.length out.length v.length k) fun r => ∃ l, r = en_spec_fgSeen l ∧ l.length ≤ 2000 by
   obtain ⟨r, q1, q2⟩ := go
   exact ⟨r, e_spec_fgSeen_L3_1 _ _ _ _ _ _ _ _ _ _ q1, q2⟩
  unfold P_spec_fgSeen_L3_1
  rw [if_neg (by simp; omega)]
  exact OK.some ⟨out, rfl, by omega⟩
 | succ m ih =>
  intro k out hk ho
  suffices go : OK (P_spec_fgSeen_L3_1 out v b s 0 out.length out.length v.length k) fun r => ∃ l, r = en_spec_fgSeen l ∧ l.length ≤ 2000 by
   obtain ⟨r, q1, q2⟩ := go
   exact ⟨r, e_spec_fgSeen_L3_1 _ _ _ _ _ _ _ _ _ _ q1, q2⟩
  unfold P_spec_fgSeen_L3_1
  have hk2 : k < v.length := by omega
  have hx : v[k]? = some v[k] := List.getElem?_eq_getElem hk2
  obtain ⟨u, hu2⟩ := hu _ (mem_of_get hx)
  rw [if_pos (by simp; omega), oxA_at rt_cI rfl hk2]
  refine OK.eq (ld_at (E := tI) rfl rfl ok_cI (fun _ => rfl) rfl rfl hx _) ?_
  rw [ixA_get sl_cUnit _ _ hu2, cast_of inj_spec_fgSpots (c_spec_fgSpots _ _ hn)]
  refine l_spec_fgSeen_L6 b s hn hs v k (fun out ho => ?_) (by omega) _ (spots_le b u) (spotsL b u).length 0 out (by omega) (by omega)
  have := ih (k + 1) out (by omega) ho
  simp only [Int.natCast_add, Int.natCast_one] at this
  exact this
theorem o_spec_fgSeen (side : Int) : ∃ l, A_spec_fgSeen b s side = some (en_spec_fgSeen l) ∧ l.length ≤ 2000 := by
 refine okA (e_spec_fgSeen _ _ _) ?_
 have hv := of_len s.Units side
 rw [cast_of inj_spec_sOf (c_spec_sOf _ _ (by omega))]
 have hu : ∀ k ∈ ofL s.Units side, ∃ u, getI s.Units k = some u := fun k hk => by obtain ⟨n, u, _, _, h, _⟩ := unit_of hk; exact ⟨u, h⟩
 generalize ofL s.Units side = v at hv hu
 suffices go : OK (P_spec_fgSeen_L3 v [] b s 0 0 0 v.length 0) fun r => ∃ l, r = en_spec_fgSeen l ∧ l.length ≤ 2000 by
  obtain ⟨r, q1, q2⟩ := go
  exact ⟨r, e_spec_fgSeen_L3 _ _ _ _ _ _ _ _ _ _ q1, q2⟩
 unfold P_spec_fgSeen_L3
 cases v with
 | nil =>
  rw [if_neg (by simp)]
  exact OK.some ⟨[], rfl, by simp⟩
 | cons k r =>
  have hx : (k :: r)[0]? = some k := rfl
  obtain ⟨u, hu2⟩ := hu k (by simp)
  rw [if_pos (by simp), oxA_at (i := 0) (j := 0) rt_cI rfl (by simp)]
  refine OK.eq (ld_at (E := tI) (j := 0) rfl rfl ok_cI (fun _ => rfl) rfl rfl hx _) ?_
  rw [ixA_get sl_cUnit _ _ hu2, cast_of inj_spec_fgSpots (c_spec_fgSpots _ _ hn)]
  refine l_spec_fgSeen_L6 b s hn hs (k :: r) 0 (fun out ho => ?_) (by omega) _ (spots_le b u) (spotsL b u).length 0 [] (by omega) (by simp)
  have := l_spec_fgSeen b s hn hs (k :: r) (by omega) hu r.length 1 out (by simp; omega) (by omega)
  exact this
end
structure ViewN (v : DView) : Prop where
 s : v.Seen.length ≤ 3000
 o : v.Own.length ≤ 100
 e : v.Enemies.length ≤ 100
structure ViewD (v : DView) : Prop where
 s : v.Seen.length ≤ 2500
 o : v.Own.length ≤ 50
 e : v.Enemies.length ≤ 50
theorem ViewD.n {v : DView} (h : ViewD v) : ViewN v := ⟨by have := h.s; omega, by have := h.o; omega, by have := h.e; omega⟩
def befB (x y : DUnit) : Bool := if x.At = y.At then (if x.Kind = y.Kind then decide (x.Steps < y.Steps) else decide (x.Kind < y.Kind)) else decide (x.At < y.At)
theorem c_spec_fgBefore (x y : DUnit) : A_spec_fgBefore x y = some (en_spec_fgBefore (befB x y)) := by
 apply e_spec_fgBefore
 unfold befB
 by_cases h : x.At = y.At
 ·rw [if_neg (by simpa using h), if_pos h]
  by_cases h2 : x.Kind = y.Kind
  ·rw [if_neg (by simpa using h2), if_pos h2]; rfl
  ·rw [if_pos (by simpa using h2), if_neg h2]; rfl
 ·rw [if_pos (by simpa using h), if_neg h]; rfl
theorem l_spec_fgView_L10 (seen : List Int) (own units : List DUnit) (a0 a1 a2 c0 c1 c2 side : Int) (i n : Nat) (hi : i < 100) (hnn : n ≤ 100) (hu : units.length ≤ 20)
  (h3 : ∀ en : List DUnit, en.length = n → OK (L_spec_fgView_L3 seen own en a0 a1 a2 c0 c1 c2 0 n n side units units.length ((i : Int) + 1)) fun r => ∃ v, r = en_spec_fgView v ∧ ViewD v) :
  ∀ (k : Nat) (en : List DUnit), en.length = n → k < n → OK (L_spec_fgView_L10 seen own en a0 a1 a2 c0 c1 c2 0 n n side k units units.length i) fun r => ∃ v, r = en_spec_fgView v ∧ ViewD v := by
 intro k
 induction k with
 | zero =>
  intro en hl hk
  suffices go : OK (P_spec_fgView_L10 seen own en a0 a1 a2 c0 c1 c2 0 n n side (0 : Nat) units units.length i) fun r => ∃ v, r = en_spec_fgView v ∧ ViewD v by
   obtain ⟨r, q1, q2⟩ := go
   exact ⟨r, e_spec_fgView_L10 _ _ _ _ _ _ _ _ _ _ _ _ _ _ _ _ _ _ q1, q2⟩
  unfold P_spec_fgView_L10
  rw [if_neg (by simp), wrap_id (n := (i : Int) + 1) (by omega) (by omega)]
  exact h3 en hl
 | succ k ih =>
  intro en hl hk
  suffices go : OK (P_spec_fgView_L10 seen own en a0 a1 a2 c0 c1 c2 0 n n side (k + 1 : Nat) units units.length i) fun r => ∃ v, r = en_spec_fgView v ∧ ViewD v by
   obtain ⟨r, q1, q2⟩ := go
   exact ⟨r, e_spec_fgView_L10 _ _ _ _ _ _ _ _ _ _ _ _ _ _ _ _ _ _ q1, q2⟩
  unfold P_spec_fgView_L10
  have x1 : en[k + 1]? = some en[k + 1] := List.getElem?_eq_getElem (by omega)
  have x0 : en[k]? = some en[k] := List.getElem?_eq_getElem (by omega)
  rw [if_pos (by simp), show (((k + 1 : Nat) : Int) - 1) = (k : Int) by omega, wrap_id (n := (k : Int)) (by omega) (by omega), wrap_id (n := (i : Int) + 1) (by omega) (by omega), oxA_at rt_cUnit rfl hk]
  refine OK.eq (ld_at (E := tUnit) rfl rfl ok_cUnit (by intro h; cases h) rfl rfl x1 _) ?_
  rw [oxA_at rt_cUnit rfl (by omega)]
  refine OK.eq (ld_at (E := tUnit) rfl rfl ok_cUnit (by intro h; cases h) rfl rfl x0 _) ?_
  rw [cast_of inj_spec_fgBefore (c_spec_fgBefore _ _)]
  refine OK.ite (fun _ => ?_) (fun _ => h3 en hl)
  rw [oxA_at rt_cUnit rfl hk]
  refine OK.eq (ld_at (E := tUnit) rfl rfl ok_cUnit (by intro h; cases h) rfl rfl x1 _) ?_
  rw [oxA_at rt_cUnit rfl (by omega)]
  refine OK.eq (ld_at (E := tUnit) rfl rfl ok_cUnit (by intro h; cases h) rfl rfl x0 _) ?_
  rw [oxA_at rt_cUnit rfl hk, stE (y := en[k]) ok_cUnit (by omega) rfl rfl (by omega) rfl rfl rfl (unit_flat _), oxA_at rt_cUnit rfl (by omega), stE (y := en[k + 1]) ok_cUnit (by omega) rfl rfl (by rw [List.length_set]; omega) rfl rfl rfl (unit_flat _)]
  exact ih _ (by rw [List.length_set, List.length_set]; exact hl) (by omega)
theorem l_spec_fgView (seen : List Int) (units : List DUnit) (a0 a1 a2 c0 c1 c2 side : Int) (hs : seen.length ≤ 2500) (hu : units.length ≤ 20) : ∀ (m i : Nat) (own en : List DUnit), i + m = units.length → own.length ≤ i → en.length ≤ i →
  OK (L_spec_fgView_L3 seen own en a0 a1 a2 c0 c1 c2 0 en.length en.length side units units.length i) fun r => ∃ v, r = en_spec_fgView v ∧ ViewD v := by
 intro m
 induction m with
 | zero =>
  intro i own en hi ho he
  suffices go : OK (P_spec_fgView_L3 seen own en a0 a1 a2 c0 c1 c2 0 en.length en.length side units units.length i) fun r => ∃ v, r = en_spec_fgView v ∧ ViewD v by
   obtain ⟨r, q1, q2⟩ := go
   exact ⟨r, e_spec_fgView_L3 _ _ _ _ _ _ _ _ _ _ _ _ _ _ _ _ _ q1, q2⟩
  unfold P_spec_fgView_L3
  rw [if_neg (by simp; omega)]
  exact OK.some ⟨⟨c0, c1, c2, seen, own, en⟩, rfl, ⟨hs, by dsimp only; omega, by dsimp only; omega⟩⟩
 | succ m ih =>
  intro i own en hi ho he
  suffices go : OK (P_spec_fgView_L3 seen own en a0 a1 a2 c0 c1 c2 0 en.length en.length side units units.length i) fun r => ∃ v, r = en_spec_fgView v ∧ ViewD v by
   obtain ⟨r, q1, q2⟩ := go
   exact ⟨r, e_spec_fgView_L3 _ _ _ _ _ _ _ _ _ _ _ _ _ _ _ _ _ q1, q2⟩
  unfold P_spec_fgView_L3
  have hlt : i < units.length := by omega
  have next : ∀ own en : List DUnit, own.length ≤ i + 1 → en.length ≤ i + 1 → OK (L_spec_fgView_L3 seen own en a0 a1 a2 c0 c1 c2 0 en.length en.length side units units.length ((i : Int) + 1)) fun r => ∃ v, r = en_spec_fgView v ∧ ViewD v := fun own en h1 h2 => by
   have := ih (i + 1) own en (by omega) h1 h2
   simp only [Int.natCast_add, Int.natCast_one] at this
   exact this
  rw [if_pos (by simp; omega), ixA_at sl_cUnit rfl (List.getElem?_eq_getElem hlt), wrap_id (n := (i : Int) + 1) (by omega) (by omega)]
  refine OK.ite (fun _ => ?_) (fun _ => OK.ite (fun _ => ?_) (fun _ => next own en (by omega) (by omega)))
  ·rw [apR_eq rt_cUnit rfl (xs := [units[i]]) (Src.row (n := 1) ok_cUnit rfl rfl) rfl rfl (by simp; omega) (by simp; omega) rfl]
   exact next _ _ (by simp; omega) (by omega)
  ·rw [gvc_at ok_cI rfl, cast_of inj_spec_l1Has (c_spec_l1Has _ _ (by omega))]
   refine OK.ite (fun _ => ?_) (fun _ => next own en (by omega) (by omega))
   rw [apR_eq rt_cUnit rfl (xs := [units[i]]) (Src.row (n := 1) ok_cUnit rfl rfl) rfl rfl (by simp; omega) (by simp; omega) rfl]
   have hl : (en ++ [units[i]]).length = en.length + 1 := by simp
   generalize en ++ [units[i]] = en2 at hl
   rw [wrap_id (n := (en2.length : Int) - 1) (by omega) (by omega), hl, show ((en.length + 1 : Nat) : Int) - 1 = (en.length : Int) by omega]
   refine l_spec_fgView_L10 seen own units a0 a1 a2 c0 c1 c2 side i (en.length + 1) (by omega) (by omega) hu (fun en3 h => ?_) en.length en2 hl (by omega)
   have := next own en3 (by omega) (by omega)
   rw [h] at this
   exact this
theorem o_spec_fgView (b : DBoard) (s : DState) (side : Int) (hn : BoardN b) (hs : s.Units.length ≤ 20) : ∃ v, A_spec_fgView b s side = some (en_spec_fgView v) ∧ ViewD v := by
 refine okA (e_spec_fgView _ _ _) ?_
 refine koA inj_spec_fgSeen (o_spec_fgSeen b s hn hs side) fun seen hl => ?_
 exact l_spec_fgView seen s.Units _ _ _ _ _ _ _ (by omega) hs s.Units.length 0 [] [] (by omega) (by simp) (by simp)
def stepOk (l : List DUnit) (i : Nat) : Bool := decide (i = 0) || !befB ((getI l (i : Int)).getD zU) ((getI l ((i : Int) - 1)).getD zU)
def sortB (l : List DUnit) : Bool := (List.range l.length).all (stepOk l)
def ownB (b : DBoard) (side : Int) (u : DUnit) : Bool := unitB b u && u.Side == side
def viewB (b : DBoard) (v : DView) : Bool := inB 0 1 v.Side && (inB 0 b.Rules.Turns v.Turn && (inB 0 2 v.Weather && ((v.Seen.all (inB 0 (b.Map.Width * b.Map.Height - 1)) && risingB v.Seen) && ((decide ((v.Own.length : Int) ≤ 12) && v.Own.all (ownB b v.Side)) && ((decide ((v.Enemies.length : Int) ≤ 12) && v.Enemies.all (ownB b (1 - v.Side))) && (v.Enemies.all (fun u => decide (u.At ∈ v.Seen)) && sortB v.Enemies))))))
def askV (b : DBoard) (v : DView) : Bool := boardB b && viewB b v
theorem unit_sms {b : DBoard} (g : BoardG b) {u : DUnit} (h : unitB b u = true) : sm u.At ∧ sm u.Kind ∧ sm u.Steps := by
 have h1 := unit_kind h
 have h2 := unit_steps h
 have h3 := (kind_get g h).2
 have := g.k1
 exact ⟨g.atsm h, by unfold sm; omega, by unfold sm; omega⟩
theorem c_impl_compareUnits (x y : DUnit) (hx : sm x.At ∧ sm x.Kind ∧ sm x.Steps) (hy : sm y.At ∧ sm y.Kind ∧ sm y.Steps) : ∃ c, A_impl_compareUnits x y = some (en_impl_compareUnits c) ∧ decide (c < 0) = befB x y := by
 unfold sm at hx hy
 by_cases h : x.At = y.At
 ·by_cases h2 : x.Kind = y.Kind
  ·refine ⟨x.Steps - y.Steps, ?_, ?_⟩
   ·apply e_impl_compareUnits
    rw [if_neg (by simpa using h), if_neg (by simpa using h2), wrap_id (n := x.Steps - y.Steps) (by omega) (by omega)]; rfl
   ·unfold befB; rw [if_pos h, if_pos h2, Bool.eq_iff_iff, decide_eq_true_eq, decide_eq_true_eq]; omega
  ·refine ⟨x.Kind - y.Kind, ?_, ?_⟩
   ·apply e_impl_compareUnits
    rw [if_neg (by simpa using h), if_pos (by simpa using h2), wrap_id (n := x.Kind - y.Kind) (by omega) (by omega)]; rfl
   ·unfold befB; rw [if_pos h, if_neg h2, Bool.eq_iff_iff, decide_eq_true_eq, decide_eq_true_eq]; omega
 ·refine ⟨x.At - y.At, ?_, ?_⟩
  ·apply e_impl_compareUnits
   rw [if_pos (by simpa using h), wrap_id (n := x.At - y.At) (by omega) (by omega)]; rfl
  ·unfold befB; rw [if_neg h, Bool.eq_iff_iff, decide_eq_true_eq, decide_eq_true_eq]; omega
theorem c_slices_IsSorted (l : List DUnit) (hl : l.length ≤ 1000) (hu : ∀ u ∈ l, sm u.At ∧ sm u.Kind ∧ sm u.Steps) : A_slices_IsSortedFunc_Unit_of_impl_compareUnits l = some (en_slices_IsSortedFunc_Unit_of_impl_compareUnits (sortB l)) := by
 have key : ∀ k : Nat, k < l.length → L_slices_IsSortedFunc_Unit_of_impl_compareUnits_L2 l k = some (en_slices_IsSortedFunc_Unit_of_impl_compareUnits ((List.range (k + 1)).all (stepOk l))) := by
  intro k
  induction k with
  | zero =>
   intro _
   apply e_slices_IsSortedFunc_Unit_of_impl_compareUnits_L2
   rw [if_neg (by simp)]
   simp [stepOk, List.range_succ, en_slices_IsSortedFunc_Unit_of_impl_compareUnits]
  | succ k ih =>
   intro hk
   have x1 : getI l ((k + 1 : Nat) : Int) = some l[k + 1] := by rw [getI_nat]; exact List.getElem?_eq_getElem hk
   have x0 : getI l (k : Int) = some l[k] := by rw [getI_nat]; exact List.getElem?_eq_getElem (by omega)
   obtain ⟨c, hc, hcb⟩ := c_impl_compareUnits l[k + 1] l[k] (hu _ (List.getElem_mem _)) (hu _ (List.getElem_mem _))
   apply e_slices_IsSortedFunc_Unit_of_impl_compareUnits_L2
   have hs : stepOk l (k + 1) = !befB l[k + 1] l[k] := by
    unfold stepOk
    rw [x1, show ((k + 1 : Nat) : Int) - 1 = (k : Int) by omega, x0]
    simp
   rw [if_pos (by simp), ixA_get sl_cUnit _ _ x1, show ((k + 1 : Nat) : Int) - 1 = (k : Int) by omega, wrap_id (n := (k : Int)) (by omega) (by omega), ixA_get sl_cUnit _ _ x0, cast_of inj_impl_compareUnits hc, hcb, List.range_succ, List.all_append, List.all_cons, List.all_nil, Bool.and_true, hs]
   cases befB l[k + 1] l[k] with
   | true => rw [if_pos rfl]; simp [en_slices_IsSortedFunc_Unit_of_impl_compareUnits]
   | false => rw [if_neg (by simp), ih (by omega)]; simp
 apply e_slices_IsSortedFunc_Unit_of_impl_compareUnits
 unfold sortB
 rw [wrap_id (by omega) (by omega)]
 cases hn : l.length with
 | zero =>
  apply e_slices_IsSortedFunc_Unit_of_impl_compareUnits_L2
  rw [if_neg (by simp)]
  rfl
 | succ n =>
  have := key n (by omega)
  rw [show ((n + 1 : Nat) : Int) - 1 = (n : Int) by omega]
  exact this
section
variable (b : DBoard) (g : BoardG b) (v : DView) (hv : ViewN v)
include g hv
theorem l_impl_goodView_L12 (hside : inB 0 1 v.Side = true) : L_impl_goodView_L12 b v v.Enemies v.Enemies.length 0 = some (en_impl_goodView (v.Enemies.all (ownB b (1 - v.Side)) && (v.Enemies.all (fun u => decide (u.At ∈ v.Seen)) && sortB v.Enemies))) := by
 have he := hv.e
 have hsl := hv.s
 rw [inB_iff] at hside
 have key : ∀ (m k : Nat), k + m = v.Enemies.length → (∀ j u, j < k → v.Enemies[j]? = some u → unitB b u = true) →
   L_impl_goodView_L12 b v v.Enemies v.Enemies.length k = some (en_impl_goodView ((v.Enemies.drop k).all (ownB b (1 - v.Side)) && ((v.Enemies.drop k).all (fun u => decide (u.At ∈ v.Seen)) && sortB v.Enemies))) := by
  intro m
  induction m with
  | zero =>
   intro k hk hp
   apply e_impl_goodView_L12
   rw [if_neg (by simp; omega), List.drop_eq_nil_of_le (by omega), cast_of inj_slices_IsSortedFunc_Unit_of_impl_compareUnits (c_slices_IsSorted _ (by omega) (fun u hu => ?_))]
   ·simp [en_impl_goodView]
   ·obtain ⟨j, hj⟩ := List.getElem?_of_mem hu
    exact unit_sms g (hp j u (by have := (List.getElem?_eq_some_iff.1 hj).1; omega) hj)
  | succ m ih =>
   intro k hk hp
   have hlt : k < v.Enemies.length := by omega
   have hx : v.Enemies[k]? = some v.Enemies[k] := List.getElem?_eq_getElem hlt
   apply e_impl_goodView_L12
   rw [if_pos (by simp; omega), ixA_at sl_cUnit rfl hx, cast_of inj_impl_goodUnit (c_impl_goodUnit _ _ g), drop_at hx, List.all_cons, List.all_cons, wrap_id (n := (k : Int) + 1) (by omega) (by omega)]
   generalize hw : v.Enemies[k] = w at hx
   cases hu : unitB b w with
   | false => rw [if_pos (by simp)]; simp [ownB, hu, en_impl_goodView]
   | true =>
    have hsd := unit_side hu
    rw [if_neg (by simp)]
    by_cases hs : w.Side = v.Side
    ·rw [if_pos (by simpa using hs)]
     have : ownB b (1 - v.Side) w = false := by unfold ownB; rw [hu, Bool.true_and, beq_eq_false_iff_ne]; omega
     simp [this, en_impl_goodView]
    ·rw [if_neg (by simpa using hs), cast_of inj_slices_Contains_int (c_slices_Contains_int _ _ (by omega))]
     have : ownB b (1 - v.Side) w = true := by unfold ownB; rw [hu, Bool.true_and, beq_iff_eq]; omega
     rw [this]
     cases hm : decide (w.At ∈ v.Seen) with
     | false => rw [if_pos (by simp)]; simp [en_impl_goodView]
     | true =>
      rw [if_neg (by simp)]
      have := ih (k + 1) (by omega) (fun j u hj hju => by
       by_cases e : j = k
       ·subst e; rw [hx] at hju; cases hju; exact hu
       ·exact hp j u (by omega) hju)
      simp only [Int.natCast_add, Int.natCast_one] at this
      rw [this]
      simp
 have := key v.Enemies.length 0 (by omega) (fun j u hj => by omega)
 simp only [Int.natCast_zero, Int.ofNat_zero, List.drop_zero] at this
 exact this
theorem c_impl_goodView (hn : BoardN b) : A_impl_goodView b v = some (en_impl_goodView (viewB b v)) := by
 have he := hv.e
 have ho := hv.o
 have hsl := hv.s
 have har := g.area
 have hmt := hn.m.t
 apply e_impl_goodView
 unfold viewB
 rw [cast_of inj_impl_isSide (c_impl_isSide _)]
 simp only [kk_impl_inRange]
 cases hside : inB 0 1 v.Side with
 | false => rfl
 | true =>
  rw [if_neg (by simp)]
  cases inB 0 b.Rules.Turns v.Turn with
  | false => rfl
  | true =>
   have hw : A_impl_isWeather v.Weather = some (en_impl_isWeather (inB 0 2 v.Weather)) := by
    apply e_impl_isWeather
    rw [kk_impl_inRange]; rfl
   rw [if_neg (by simp), cast_of inj_impl_isWeather hw]
   cases inB 0 2 v.Weather with
   | false => rfl
   | true =>
    rw [if_neg (by simp), cast_of inj_impl_increasing (c_impl_increasing _ (by omega))]
    cases risingB v.Seen with
    | false => rw [if_pos (by simp)]; simp [en_impl_goodView]
    | true =>
     rw [if_neg (by simp)]
     by_cases h1 : (v.Own.length : Int) ≤ 12
     ·rw [if_neg (by simpa using h1)]
      by_cases h2 : (v.Enemies.length : Int) ≤ 12
      ·rw [if_neg (by simpa using h2)]
       have hi : A_xf_impl_goodView_1 b v.Seen = some (en_xf_impl_goodView_1 (findI (fun i => !inB 0 (b.Map.Width * b.Map.Height - 1) i) v.Seen, b)) := by
        apply e_xf_impl_goodView_1
        refine idx_loop (fun i => L_xf_impl_goodView_1_L2 b v.Seen v.Seen.length i) v.Seen (fun i => !inB 0 (b.Map.Width * b.Map.Height - 1) i) (fun i => some (en_xf_impl_goodView_1 (i, b))) ?_ (fun i x hx hi => ?_) _ rfl
        ·intro _ h; apply e_xf_impl_goodView_1_L2
         rw [← h]; simp [en_xf_impl_goodView_1]
        ·intro _ h; apply e_xf_impl_goodView_1_L2
         have hc : A_impl_goodView_1 b x = some (en_impl_goodView_1 (!inB 0 (b.Map.Width * b.Map.Height - 1) x, b)) := by
          apply e_impl_goodView_1
          rw [cast_of inj_impl_sizeOf (c_impl_sizeOf _), cast_of inj_impl_isIndex (c_impl_isIndex _ _ (by omega) (by omega)), har]
          rfl
         rw [if_pos (by simpa using hi), ixA_at sl_cI rfl hx, cast_of inj_impl_goodView_1 hc, wrap_id (by omega) (by omega)]
         exact h
       have hc : A_cf_impl_goodView_1 b v.Seen = some (en_cf_impl_goodView_1 (v.Seen.any (fun i => !inB 0 (b.Map.Width * b.Map.Height - 1) i), b)) := by
        apply e_cf_impl_goodView_1
        rw [cast_of inj_xf_impl_goodView_1 hi, findI_any]
        rfl
       have e : v.Seen.any (fun i => !inB 0 (b.Map.Width * b.Map.Height - 1) i) = !v.Seen.all (inB 0 (b.Map.Width * b.Map.Height - 1)) := by rw [List.all_eq_not_any_not, Bool.not_not]
       rw [cast_of inj_cf_impl_goodView_1 hc, e]
       cases v.Seen.all (inB 0 (b.Map.Width * b.Map.Height - 1)) with
       | false => rfl
       | true =>
        dsimp only
        rw [if_neg (by simp)]
        have := all_loop (fun k => L_impl_goodView_L6 b v v.Own v.Own.length k) v.Own (ownB b v.Side) (some (en_impl_goodView (v.Enemies.all (ownB b (1 - v.Side)) && (v.Enemies.all (fun u => decide (u.At ∈ v.Seen)) && sortB v.Enemies)))) (some (en_impl_goodView false)) ?_ (fun k x hx hk => ?_)
        ·refine this _ ?_
         cases v.Own.all (ownB b v.Side) <;> simp [h1, h2]
        ·intro _ h; apply e_impl_goodView_L6
         rw [if_neg (by simp), l_impl_goodView_L12 b g v hv hside, ← h]
        ·intro _ h; apply e_impl_goodView_L6
         rw [if_pos (by simpa using hk), ixA_at sl_cUnit rfl hx, cast_of inj_impl_goodUnit (c_impl_goodUnit _ _ g), wrap_id (n := (k : Int) + 1) (by omega) (by omega), ← h]
         unfold ownB
         cases unitB b x with
         | false => rfl
         | true =>
          by_cases hs : x.Side = v.Side
          ·simp [hs]
          ·simp [hs, en_impl_goodView]
      ·rw [if_pos (by simpa using h2)]
       simp [h2, en_impl_goodView]
     ·rw [if_pos (by simpa using h1)]
      simp [h1, en_impl_goodView]
end
def unseenL (b : DBoard) (v : DView) : List Int := colI (fun k _ => !decide ((k : Int) ∈ v.Seen)) (fun k _ => (k : Int)) b.Map.Terrain
def hideP (b : DBoard) (v : DView) (kind i : Int) : Bool := decide (costL b kind i ≠ 0) && v.Own.all fun u => u.At != i
def hideL (b : DBoard) (v : DView) (kind : Int) : List Int := colI (fun k _ => !decide ((k : Int) ∈ v.Seen) && hideP b v kind k) (fun k _ => (k : Int)) b.Map.Terrain
theorem colI_filter {α : Type} (p : Nat → Bool) (q : Int → Bool) (l : List α) : (colI (fun k _ => p k) (fun k _ => (k : Int)) l).filter q = colI (fun k _ => p k && q k) (fun k _ => (k : Int)) l := by
 have key : ∀ (l : List α) (n : Nat), (colN (fun k _ => p k) (fun k _ => (k : Int)) n l).filter q = colN (fun k _ => p k && q k) (fun k _ => (k : Int)) n l := by
  intro l
  induction l with
  | nil => intro n; rfl
  | cons x l ih =>
   intro n
   unfold colN
   cases hp : p n with
   | false => simp [ih]
   | true =>
    rw [if_pos rfl, List.filter_cons, ih]
    simp
 exact key l 0
theorem hide_filter (b : DBoard) (v : DView) (kind : Int) : (unseenL b v).filter (hideP b v kind) = hideL b v kind := colI_filter (fun k => !decide ((k : Int) ∈ v.Seen)) _ _
section
variable (b : DBoard) (g : BoardG b) (hn : BoardN b) (v : DView) (hv : ViewN v)
include g hn hv
theorem c_spec_yUnseen : A_spec_yUnseen b v = some (en_spec_yUnseen (unseenL b v)) := by
 have ha := g.area
 have hmt := hn.m.t
 have hsl := hv.s
 apply e_spec_yUnseen
 unfold unseenL
 refine col_loop (fun k acc => L_spec_yUnseen_L3 acc b v k) b.Map.Terrain (fun k _ => !decide ((k : Int) ∈ v.Seen)) (fun k _ => (k : Int)) (fun acc => some (en_spec_yUnseen acc)) ?_ (fun k y acc hy hk hl => ?_) _ rfl
 ·intro acc hl _ h; apply e_spec_yUnseen_L3
  rw [cast_of inj_spec_mSize (c_spec_mSize _), wrap_id (n := b.Map.Width * b.Map.Height) (by omega) (by omega), if_neg (by simp; omega), give_at ok_cI rfl, ← h]; rfl
 ·intro _ h; apply e_spec_yUnseen_L3
  rw [cast_of inj_spec_mSize (c_spec_mSize _), wrap_id (n := b.Map.Width * b.Map.Height) (by omega) (by omega), if_pos (by simp; omega), cast_of inj_spec_l1Has (c_spec_l1Has _ _ (by omega)), apR_eq rt_cI rfl (xs := [(k : Int)]) (Src.row (n := 1) ok_cI rfl rfl) rfl rfl (by simp; omega) (by simp; omega) rfl, wrap_id (n := (k : Int) + 1) (by omega) (by omega)]
  exact h
theorem c_spec_yHide (kind : Int) (k0 : 0 ≤ kind) (k1 : kind < b.Rules.Kinds.length) : A_spec_yHide b v kind = some (en_spec_yHide (hideL b v kind)) := by
 have ha := g.area
 have hmt := hn.m.t
 have ho := hv.o
 have hul : (unseenL b v).length ≤ b.Map.Terrain.length := colI_len _ _ _
 have hum : ∀ i ∈ unseenL b v, onB b i := fun i hi => by
  obtain ⟨j, x, hj, _, rfl⟩ := mem_colI.1 hi
  have := (List.getElem?_eq_some_iff.1 hj).1
  exact ⟨by omega, by omega⟩
 apply e_spec_yHide
 rw [cast_of inj_spec_yUnseen (c_spec_yUnseen b g hn v hv), ← hide_filter]
 generalize unseenL b v = l at hul hum
 rw [← col_filter]
 refine col_loop (fun k acc => L_spec_yHide_L3 acc b v kind l l.length k) l (fun _ i => hideP b v kind i) (fun _ i => i) (fun acc => some (en_spec_yHide acc)) ?_ (fun k i acc hi hk hl => ?_) _ rfl
 ·intro acc hl _ h; apply e_spec_yHide_L3
  rw [if_neg (by simp), give_at ok_cI rfl, ← h]; rfl
 ·have hon := hum i (mem_of_get hi)
  obtain ⟨hc, c0, _⟩ := g.cost_ex k0 k1 hon.1 hon.2
  have key : ∀ (m j : Nat) (free : Bool), j + m = v.Own.length → OLe (if (free && (v.Own.drop j).all fun u => u.At != i) = true then L_spec_yHide_L3 (acc ++ [i]) b v kind l l.length ((k : Int) + 1) else L_spec_yHide_L3 acc b v kind l l.length ((k : Int) + 1)) (L_spec_yHide_L7 acc b v kind i free l l.length k v.Own v.Own.length j) := by
   intro m
   induction m with
   | zero =>
    intro j free hj r hr
    apply e_spec_yHide_L7
    rw [if_neg (by simp; omega), wrap_id (n := (k : Int) + 1) (by omega) (by omega)]
    rw [List.drop_eq_nil_of_le (by omega), List.all_nil, Bool.and_true] at hr
    cases free with
    | true =>
     rw [if_pos rfl] at hr ⊢
     rw [apR_eq rt_cI rfl (xs := [i]) (Src.row (n := 1) ok_cI rfl rfl) rfl rfl (by simp; omega) (by simp; omega) rfl]
     exact hr
    | false =>
     rw [if_neg (by simp)] at hr ⊢
     exact hr
   | succ m ih =>
    intro j free hj r hr
    have hj2 : j < v.Own.length := by omega
    have hx : v.Own[j]? = some v.Own[j] := List.getElem?_eq_getElem hj2
    apply e_spec_yHide_L7
    rw [if_pos (by simp; omega), ixA_at sl_cUnit rfl hx, wrap_id (n := (j : Int) + 1) (by omega) (by omega)]
    rw [drop_at hx, List.all_cons] at hr
    cases free with
    | true =>
     rw [if_pos rfl]
     have := ih (j + 1) (v.Own[j].At != i) (by omega) r (by simpa using hr)
     simp only [Int.natCast_add, Int.natCast_one] at this
     exact this
    | false =>
     rw [if_neg (by simp)]
     have := ih (j + 1) false (by omega) r (by simpa using hr)
     simp only [Int.natCast_add, Int.natCast_one] at this
     exact this
  intro r h; apply e_spec_yHide_L3
  rw [if_pos (by simpa using hk), ixA_at sl_cI rfl hi, cast_of inj_spec_bCost (c_spec_bCost _ _ _ hc)]
  have := key v.Own.length 0 (decide (0 < costL b kind i)) (by omega) r (by
   unfold hideP at h
   rw [List.drop_zero, show decide (0 < costL b kind i) = decide (costL b kind i ≠ 0) by rw [Bool.eq_iff_iff, decide_eq_true_eq, decide_eq_true_eq]; omega]
   exact h)
  exact this
theorem c_impl_mayHide (kind : Int) (k0 : 0 ≤ kind) (k1 : kind < b.Rules.Kinds.length) : A_impl_mayHide b v kind = some (en_impl_mayHide (hideL b v kind)) := by
 have ha := g.area
 have hmt := hn.m.t
 have ho := hv.o
 have hsl := hv.s
 have hc : A_hT_impl_mayHide_1 v b kind b = some (en_hT_impl_mayHide_1 (hideL b v kind, v, b, kind)) := by
  apply e_hT_impl_mayHide_1
  unfold hideL
  refine col_loop (fun k acc => L_hT_impl_mayHide_1_L3 acc v b kind b.Map.Terrain.length k) b.Map.Terrain (fun k _ => !decide ((k : Int) ∈ v.Seen) && hideP b v kind k) (fun k _ => (k : Int)) (fun acc => some (en_hT_impl_mayHide_1 (acc, v, b, kind))) ?_ (fun k x acc hx hk hl => ?_) _ rfl
  ·intro acc hl _ h; apply e_hT_impl_mayHide_1_L3
   rw [if_neg (by simp), give_at ok_cI rfl, ← h]; rfl
  ·obtain ⟨hco, c0, _⟩ := g.cost_ex (i := (k : Int)) k0 k1 (by omega) (by omega)
   have hi : A_slices_IndexFunc_Unit_of_impl_mayHide_1_1 k v.Own = some (en_slices_IndexFunc_Unit_of_impl_mayHide_1_1 (findI (fun u => u.At == (k : Int)) v.Own, (k : Int))) := by
    apply e_slices_IndexFunc_Unit_of_impl_mayHide_1_1
    refine idx_loop (fun i => L_slices_IndexFunc_Unit_of_impl_mayHide_1_1_L2 k v.Own v.Own.length i) v.Own (fun u => u.At == (k : Int)) (fun i => some (en_slices_IndexFunc_Unit_of_impl_mayHide_1_1 (i, (k : Int)))) ?_ (fun i x hx hi => ?_) _ rfl
    ·intro _ h; apply e_slices_IndexFunc_Unit_of_impl_mayHide_1_1_L2
     rw [← h]; simp [en_slices_IndexFunc_Unit_of_impl_mayHide_1_1]
    ·intro _ h; apply e_slices_IndexFunc_Unit_of_impl_mayHide_1_1_L2
     have h1 : A_impl_mayHide_1_1 k x = some (en_impl_mayHide_1_1 (x.At == (k : Int), (k : Int))) := by
      apply e_impl_mayHide_1_1; rfl
     rw [if_pos (by simpa using hi), ixA_at sl_cUnit rfl hx, cast_of inj_impl_mayHide_1_1 h1, wrap_id (by omega) (by omega)]
     exact h
   have hcf : A_slices_ContainsFunc_Unit_of_impl_mayHide_1_1 k v.Own = some (en_slices_ContainsFunc_Unit_of_impl_mayHide_1_1 (v.Own.any (fun u => u.At == (k : Int)), (k : Int))) := by
    apply e_slices_ContainsFunc_Unit_of_impl_mayHide_1_1
    rw [cast_of inj_slices_IndexFunc_Unit_of_impl_mayHide_1_1 hi, findI_any]
    rfl
   have e : v.Own.any (fun u => u.At == (k : Int)) = !v.Own.all fun u => u.At != (k : Int) := by rw [List.all_eq_not_any_not, Bool.not_not]; congr 1; funext u; simp [bne]
   have hm : A_impl_mayHide_1 v b kind k = some (en_impl_mayHide_1 (!decide ((k : Int) ∈ v.Seen) && hideP b v kind k, v, b, kind)) := by
    apply e_impl_mayHide_1
    unfold hideP
    rw [cast_of inj_slices_ContainsFunc_Unit_of_impl_mayHide_1_1 hcf, e]
    cases v.Own.all (fun u => u.At != (k : Int)) with
    | false => simp [en_impl_mayHide_1]
    | true =>
     dsimp only
     rw [if_pos (by simp), cast_of inj_slices_Contains_int (c_slices_Contains_int _ _ (by omega))]
     by_cases hs : (k : Int) ∈ v.Seen
     ·simp [hs, en_impl_mayHide_1]
     ·rw [if_pos (by simpa using hs), cast_of inj_impl_enterCost (c_impl_enterCost _ _ _ hco)]
      simp [hs, en_impl_mayHide_1, bne]
      rw [Bool.eq_iff_iff]; simp
   intro _ h; apply e_hT_impl_mayHide_1_L3
   rw [if_pos (by simpa using hk), cast_of inj_impl_mayHide_1 hm, apR_eq rt_cI rfl (xs := [(k : Int)]) (Src.row (n := 1) ok_cI rfl rfl) rfl rfl (by simp; omega) (by simp; omega) rfl, wrap_id (n := (k : Int) + 1) (by omega) (by omega)]
   exact h
 apply e_impl_mayHide
 rw [cast_of inj_hT_impl_mayHide_1 hc]
 rfl
theorem c_impl_hexesThat_Unseen : A_hT_impl_UnseenHexes_1 v b = some (en_hT_impl_UnseenHexes_1 (unseenL b v, v)) := by
 have hmt := hn.m.t
 have hsl := hv.s
 apply e_hT_impl_UnseenHexes_1
 unfold unseenL
 refine col_loop (fun k acc => L_hT_impl_UnseenHexes_1_L3 acc v b.Map.Terrain.length k) b.Map.Terrain (fun k _ => !decide ((k : Int) ∈ v.Seen)) (fun k _ => (k : Int)) (fun acc => some (en_hT_impl_UnseenHexes_1 (acc, v))) ?_ (fun k x acc hx hk hl => ?_) _ rfl
 ·intro acc hl _ h; apply e_hT_impl_UnseenHexes_1_L3
  rw [if_neg (by simp), give_at ok_cI rfl, ← h]; rfl
 ·have hm : A_impl_UnseenHexes_1 v k = some (en_impl_UnseenHexes_1 (!decide ((k : Int) ∈ v.Seen), v)) := by
   apply e_impl_UnseenHexes_1
   rw [cast_of inj_slices_Contains_int (c_slices_Contains_int _ _ (by omega))]; rfl
  intro _ h; apply e_hT_impl_UnseenHexes_1_L3
  rw [if_pos (by simpa using hk), cast_of inj_impl_UnseenHexes_1 hm, apR_eq rt_cI rfl (xs := [(k : Int)]) (Src.row (n := 1) ok_cI rfl rfl) rfl rfl (by simp; omega) (by simp; omega) rfl, wrap_id (n := (k : Int) + 1) (by omega) (by omega)]
  exact h
end
theorem sortB_range (l : List DUnit) : sortB l = (List.range' 0 l.length).all (stepOk l) := by unfold sortB; rw [List.range_eq_range']
section
variable (b : DBoard) (g : BoardG b) (hn : BoardN b)
include g hn
theorem c_spec_yUnits (l : List DUnit) (side : Int) (hl : l.length ≤ 1000) : A_spec_yUnits b l side = some (en_spec_yUnits (decide ((l.length : Int) ≤ 12) && l.all (ownB b side))) := by
 apply e_spec_yUnits
 have := all_loop (fun k => L_spec_yUnits_L2 b l side l l.length k) l (ownB b side) (some (en_spec_yUnits (decide ((l.length : Int) ≤ 12)))) (some (en_spec_yUnits false)) ?_ (fun k x hx hk => ?_)
 ·refine this _ ?_
  cases l.all (ownB b side) <;> simp
 ·intro _ h; apply e_spec_yUnits_L2
  rw [if_neg (by simp), ← h]; rfl
 ·intro _ h; apply e_spec_yUnits_L2
  rw [if_pos (by simpa using hk), ixA_at sl_cUnit rfl hx, cast_of inj_spec_sUnit (c_spec_sUnit _ _ g), wrap_id (n := (k : Int) + 1) (by omega) (by omega), ← h]
  unfold ownB
  by_cases hs : x.Side = side
  ·rw [if_neg (by simpa using hs)]
   cases unitB b x <;> simp [hs, en_spec_yUnits]
  ·rw [if_pos (by simpa using hs)]
   simp [hs, en_spec_yUnits]
theorem c_spec_yGood (v : DView) (hv : ViewN v) : A_spec_yGood b v = some (en_spec_yGood (viewB b v)) := by
 have he := hv.e
 have ho := hv.o
 have hsl := hv.s
 have har := g.area
 have hmt := hn.m.t
 have l4 : L_spec_yGood_L4 v v.Enemies v.Enemies.length 0 = some (en_spec_yGood (v.Enemies.all (fun u => decide (u.At ∈ v.Seen)) && sortB v.Enemies)) := by
  have key : ∀ (m k : Nat), k + m = v.Enemies.length → L_spec_yGood_L4 v v.Enemies v.Enemies.length k = some (en_spec_yGood ((v.Enemies.drop k).all (fun u => decide (u.At ∈ v.Seen)) && (List.range' k m).all (stepOk v.Enemies))) := by
   intro m
   induction m with
   | zero =>
    intro k hk
    apply e_spec_yGood_L4
    rw [if_neg (by simp; omega), List.drop_eq_nil_of_le (by omega)]
    simp [en_spec_yGood]
   | succ m ih =>
    intro k hk
    have hlt : k < v.Enemies.length := by omega
    have hx : v.Enemies[k]? = some v.Enemies[k] := List.getElem?_eq_getElem hlt
    have hxi : getI v.Enemies (k : Int) = some v.Enemies[k] := by rw [getI_nat]; exact hx
    have ih1 := ih (k + 1) (by omega)
    simp only [Int.natCast_add, Int.natCast_one] at ih1
    apply e_spec_yGood_L4
    rw [if_pos (by simp; omega), ixA_at sl_cUnit rfl hx, cast_of inj_spec_l1Has (c_spec_l1Has _ _ (by omega)), drop_at hx, List.all_cons, List.range'_succ, List.all_cons, wrap_id (n := (k : Int) + 1) (by omega) (by omega)]
    cases hm : decide (v.Enemies[k].At ∈ v.Seen) with
    | false => rw [if_pos (by simp)]; simp [en_spec_yGood]
    | true =>
     rw [if_neg (by simp)]
     cases k with
     | zero =>
      rw [if_neg (by simp), ih1]
      simp [stepOk]
     | succ j =>
      have hj : getI v.Enemies (j : Int) = some v.Enemies[j] := by rw [getI_nat]; exact List.getElem?_eq_getElem (by omega)
      have hs : stepOk v.Enemies (j + 1) = !befB v.Enemies[j + 1] v.Enemies[j] := by
       unfold stepOk
       rw [hxi, show ((j + 1 : Nat) : Int) - 1 = (j : Int) by omega, hj]
       simp
      rw [if_pos (by simp), show ((j + 1 : Nat) : Int) - 1 = (j : Int) by omega, wrap_id (n := (j : Int)) (by omega) (by omega), ixA_get sl_cUnit _ _ hj, cast_of inj_spec_fgBefore (c_spec_fgBefore _ _), hs]
      cases befB v.Enemies[j + 1] v.Enemies[j] with
      | true => rw [if_pos rfl]; simp [en_spec_yGood]
      | false => rw [if_neg (by simp), ih1]; simp
  have := key v.Enemies.length 0 (by omega)
  rw [sortB_range]
  simpa only [Int.natCast_zero, Int.ofNat_zero, List.drop_zero] using this
 apply e_spec_yGood
 unfold viewB
 simp only [kk_spec_l1In]
 cases hside : inB 0 1 v.Side with
 | false => rfl
 | true =>
  rw [inB_iff] at hside
  cases inB 0 b.Rules.Turns v.Turn with
  | false => simp [en_spec_yGood]
  | true =>
   cases inB 0 2 v.Weather with
   | false => simp [en_spec_yGood]
   | true =>
    simp only [Bool.not_true, Bool.false_eq_true, if_false, Bool.true_and]
    rw [cast_of inj_spec_mSize (c_spec_mSize _), wrap_id (n := b.Map.Width * b.Map.Height) (by omega) (by omega), wrap_id (n := b.Map.Width * b.Map.Height - 1) (by omega) (by omega), cast_of inj_spec_l1Rising (c_spec_l1Rising _ _ _ (by omega))]
    cases v.Seen.all (inB 0 (b.Map.Width * b.Map.Height - 1)) && risingB v.Seen with
    | false => simp [en_spec_yGood]
    | true =>
     rw [if_neg (by simp), cast_of inj_spec_yUnits (c_spec_yUnits b g hn _ _ (by omega))]
     cases decide ((v.Own.length : Int) ≤ 12) && v.Own.all (ownB b v.Side) with
     | false => simp [en_spec_yGood]
     | true =>
      rw [if_neg (by simp)]
      rw [wrap_id (n := 1 - v.Side) (by omega) (by omega), cast_of inj_spec_yUnits (c_spec_yUnits b g hn _ _ (by omega))]
      cases decide ((v.Enemies.length : Int) ≤ 12) && v.Enemies.all (ownB b (1 - v.Side)) with
      | false => simp [en_spec_yGood]
      | true => rw [if_neg (by simp), l4]; simp
end
theorem c_spec_yAsked (b : DBoard) (v : DView) (hn : BoardN b) (hv : ViewN v) : A_spec_yAsked b v = some (en_spec_yAsked (askV b v)) := by
 apply e_spec_yAsked
 unfold askV
 rw [cast_of inj_spec_bGood (c_spec_bGood _ hn)]
 cases hb : boardB b with
 | false => rfl
 | true =>
  rw [if_pos rfl, cast_of inj_spec_yGood (c_spec_yGood b (.of hb) hn v hv)]
  rfl
theorem c_impl_hasView (b : DBoard) (v : DView) (hn : BoardN b) (hv : ViewN v) : A_impl_hasView b v = some (en_impl_hasView (askV b v)) := by
 apply e_impl_hasView
 unfold askV
 rw [cast_of inj_impl_IsBoard (c_impl_IsBoard _ hn)]
 cases hb : boardB b with
 | false => rfl
 | true =>
  rw [if_pos rfl, cast_of inj_impl_goodView (c_impl_goodView b (.of hb) v hv hn)]
  rfl
def askH (b : DBoard) (v : DView) (kind : Int) : Bool := askV b v && inB 0 ((b.Rules.Kinds.length : Int) - 1) kind
theorem askV_b {b : DBoard} {v : DView} (h : askV b v = true) : BoardG b ∧ viewB b v = true := by
 unfold askV at h
 rw [Bool.and_eq_true] at h
 exact ⟨.of h.1, h.2⟩
theorem c_impl_isHiding (b : DBoard) (v : DView) (kind : Int) (hn : BoardN b) (hv : ViewN v) : A_impl_isHiding b v kind = some (en_impl_isHiding (askH b v kind)) := by
 have hk := hn.r.k
 apply e_impl_isHiding
 unfold askH
 rw [cast_of inj_impl_hasView (c_impl_hasView _ _ hn hv)]
 cases askV b v with
 | false => rfl
 | true =>
  rw [if_pos rfl, cast_of inj_impl_isIndex (c_impl_isIndex _ _ (by omega) (by omega))]
  rfl
theorem bAt_zero {b : DBoard} (g : BoardG b) (kind : Int) : bAtB b kind 0 = inB 0 ((b.Rules.Kinds.length : Int) - 1) kind := by
 have h := Int.mul_pos g.w0 g.h0
 unfold bAtB
 rw [g.ok, Bool.true_and, show inB 0 (b.Map.Width * b.Map.Height - 1) 0 = true from inB_iff.2 ⟨by omega, by omega⟩, Bool.and_true]
def mayR (b : DBoard) (v : DView) (kind : Int) : List Int × Bool := if askH b v kind then (hideL b v kind, true) else ([], false)
theorem c_impl_MayHide (b : DBoard) (v : DView) (kind : Int) (hn : BoardN b) (hv : ViewN v) : A_impl_MayHide b v kind = some (en_impl_MayHide (mayR b v kind)) := by
 apply e_impl_MayHide
 unfold mayR
 rw [cast_of inj_impl_isHiding (c_impl_isHiding _ _ _ hn hv)]
 cases h : askH b v kind with
 | false => rfl
 | true =>
  unfold askH at h
  rw [Bool.and_eq_true, inB_iff] at h
  rw [if_neg (by simp), cast_of inj_impl_mayHide (c_impl_mayHide b (askV_b h.1).1 hn v hv _ h.2.1 (by omega))]
  rfl
theorem c_spec_MayHide (b : DBoard) (v : DView) (kind : Int) (hn : BoardN b) (hv : ViewN v) : A_spec_MayHide b v kind = some (en_spec_MayHide (mayR b v kind)) := by
 apply e_spec_MayHide
 unfold mayR askH
 rw [cast_of inj_spec_yAsked (c_spec_yAsked _ _ hn hv)]
 cases h : askV b v with
 | false => rfl
 | true =>
  have g := (askV_b h).1
  rw [if_neg (by simp), cast_of inj_spec_bAt (c_spec_bAt _ _ _ hn), bAt_zero g]
  cases hi : inB 0 ((b.Rules.Kinds.length : Int) - 1) kind with
  | false => rfl
  | true =>
   rw [inB_iff] at hi
   rw [if_neg (by simp), cast_of inj_spec_yHide (c_spec_yHide b g hn v hv _ hi.1 (by omega))]
   rfl
def unsR (b : DBoard) (v : DView) : List Int × Bool := if askV b v then (unseenL b v, true) else ([], false)
theorem c_impl_UnseenHexes (b : DBoard) (v : DView) (hn : BoardN b) (hv : ViewN v) : A_impl_UnseenHexes b v = some (en_impl_UnseenHexes (unsR b v)) := by
 apply e_impl_UnseenHexes
 unfold unsR
 rw [cast_of inj_impl_hasView (c_impl_hasView _ _ hn hv)]
 cases h : askV b v with
 | false => rfl
 | true =>
  rw [if_neg (by simp), cast_of inj_hT_impl_UnseenHexes_1 (c_impl_hexesThat_Unseen b (askV_b h).1 hn v hv)]
  rfl
theorem c_spec_UnseenHexes (b : DBoard) (v : DView) (hn : BoardN b) (hv : ViewN v) : A_spec_UnseenHexes b v = some (en_spec_UnseenHexes (unsR b v)) := by
 apply e_spec_UnseenHexes
 unfold unsR
 rw [cast_of inj_spec_yAsked (c_spec_yAsked _ _ hn hv)]
 cases h : askV b v with
 | false => rfl
 | true =>
  rw [if_neg (by simp), cast_of inj_spec_yUnseen (c_spec_yUnseen b (askV_b h).1 hn v hv)]
  rfl
def onlyL (l o : List Int) : List Int := l.filter fun n => !decide (n ∈ o)
def eqU (x y : DUnit) : Bool := x.Side == y.Side && (x.Kind == y.Kind && (x.At == y.At && (x.Steps == y.Steps && true)))
def newL (l o : List DUnit) : List Int := colI (fun _ u => !o.any (eqU u)) (fun k _ => (k : Int)) l
theorem c_impl_without (l o : List Int) (hl : l.length ≤ 100000) (ho : o.length ≤ 100000) : A_impl_without l o = some (en_impl_without (onlyL l o)) := by
 apply e_impl_without
 unfold onlyL
 rw [← col_filter]
 refine col_loop (fun k acc => L_impl_without_L3 acc o l l.length k) l (fun _ n => !decide (n ∈ o)) (fun _ n => n) (fun acc => some (en_impl_without acc)) ?_ (fun k y acc hy hk ha => ?_) _ rfl
 ·intro acc ha _ h; apply e_impl_without_L3
  rw [if_neg (by simp), give_at ok_cI rfl, ← h]; rfl
 ·intro _ h; apply e_impl_without_L3
  rw [if_pos (by simpa using hk), ixA_at sl_cI rfl hy, cast_of inj_slices_Contains_int (c_slices_Contains_int _ _ (by omega)), apR_eq rt_cI rfl (xs := [y]) (Src.row (n := 1) ok_cI rfl rfl) rfl rfl (by simp; omega) (by simp; omega) rfl, wrap_id (n := (k : Int) + 1) (by omega) (by omega)]
  exact h
theorem c_spec_yOnly (l o : List Int) (hl : l.length ≤ 100000) (ho : o.length ≤ 100000) : A_spec_yOnly l o = some (en_spec_yOnly (onlyL l o)) := by
 apply e_spec_yOnly
 unfold onlyL
 rw [← col_filter]
 refine col_loop (fun k acc => L_spec_yOnly_L3 acc o l l.length k) l (fun _ n => !decide (n ∈ o)) (fun _ n => n) (fun acc => some (en_spec_yOnly acc)) ?_ (fun k y acc hy hk ha => ?_) _ rfl
 ·intro acc ha _ h; apply e_spec_yOnly_L3
  rw [if_neg (by simp), give_at ok_cI rfl, ← h]; rfl
 ·intro _ h; apply e_spec_yOnly_L3
  rw [if_pos (by simpa using hk), ixA_at sl_cI rfl hy, cast_of inj_spec_l1Has (c_spec_l1Has _ _ (by omega)), apR_eq rt_cI rfl (xs := [y]) (Src.row (n := 1) ok_cI rfl rfl) rfl rfl (by simp; omega) (by simp; omega) rfl, wrap_id (n := (k : Int) + 1) (by omega) (by omega)]
  exact h
theorem c_slices_Contains_Unit (l : List DUnit) (u : DUnit) (hl : l.length ≤ 100000) : A_slices_Contains_Unit l u = some (en_slices_Contains_Unit (l.any (eqU u))) := by
 have hi : A_slices_Index_Unit l u = some (en_slices_Index_Unit (findI (eqU u) l)) := by
  apply e_slices_Index_Unit
  refine idx_loop (fun i => L_slices_Index_Unit_L2 u l l.length i) l (eqU u) (fun i => some (en_slices_Index_Unit i)) ?_ (fun i x hx hi => ?_) _ rfl
  ·intro _ h; apply e_slices_Index_Unit_L2
   rw [if_neg (by simp), ← h]; rfl
  ·intro _ h; apply e_slices_Index_Unit_L2
   rw [if_pos (by simpa using hi), ixA_at sl_cUnit rfl hx, wrap_id (by omega) (by omega)]
   exact h
 apply e_slices_Contains_Unit
 rw [cast_of inj_slices_Index_Unit hi, findI_any]
 rfl
theorem c_impl_newUnits (l o : List DUnit) (hl : l.length ≤ 100000) (ho : o.length ≤ 100000) : A_impl_newUnits l o = some (en_impl_newUnits (newL l o)) := by
 apply e_impl_newUnits
 unfold newL
 refine col_loop (fun k acc => L_impl_newUnits_L3 acc o l l.length k) l (fun _ u => !o.any (eqU u)) (fun k _ => (k : Int)) (fun acc => some (en_impl_newUnits acc)) ?_ (fun k y acc hy hk ha => ?_) _ rfl
 ·intro acc ha _ h; apply e_impl_newUnits_L3
  rw [if_neg (by simp), give_at ok_cI rfl, ← h]; rfl
 ·intro _ h; apply e_impl_newUnits_L3
  rw [if_pos (by simpa using hk), ixA_at sl_cUnit rfl hy, cast_of inj_slices_Contains_Unit (c_slices_Contains_Unit _ _ ho), apR_eq rt_cI rfl (xs := [(k : Int)]) (Src.row (n := 1) ok_cI rfl rfl) rfl rfl (by simp; omega) (by simp; omega) rfl, wrap_id (n := (k : Int) + 1) (by omega) (by omega)]
  exact h
theorem c_spec_yNew (l o : List DUnit) (hl : l.length ≤ 100000) (ho : o.length ≤ 100000) : A_spec_yNew l o = some (en_spec_yNew (newL l o)) := by
 apply e_spec_yNew
 unfold newL
 refine col_loop (fun k acc => L_spec_yNew_L3 acc o l l.length k) l (fun _ u => !o.any (eqU u)) (fun k _ => (k : Int)) (fun acc => some (en_spec_yNew acc)) ?_ (fun k y acc hy hk ha => ?_) _ rfl
 ·intro acc ha _ h; apply e_spec_yNew_L3
  rw [if_neg (by simp), give_at ok_cI rfl, ← h]; rfl
 ·have key : ∀ (m j : Nat) (met : Bool), j + m = o.length → OLe (if (!(met || (o.drop j).any (eqU y))) = true then L_spec_yNew_L3 (acc ++ [(k : Int)]) o l l.length ((k : Int) + 1) else L_spec_yNew_L3 acc o l l.length ((k : Int) + 1)) (L_spec_yNew_L7 acc y o k met l l.length k o o.length j) := by
   intro m
   induction m with
   | zero =>
    intro j met hj r hr
    apply e_spec_yNew_L7
    rw [if_neg (by simp; omega), wrap_id (n := (k : Int) + 1) (by omega) (by omega), apR_eq rt_cI rfl (xs := [(k : Int)]) (Src.row (n := 1) ok_cI rfl rfl) rfl rfl (by simp; omega) (by simp; omega) rfl]
    rw [List.drop_eq_nil_of_le (by omega), List.any_nil, Bool.or_false] at hr
    exact hr
   | succ m ih =>
    intro j met hj r hr
    have hj2 : j < o.length := by omega
    have hx : o[j]? = some o[j] := List.getElem?_eq_getElem hj2
    apply e_spec_yNew_L7
    rw [if_pos (by simp; omega), ixA_at sl_cUnit rfl hx, wrap_id (n := (j : Int) + 1) (by omega) (by omega)]
    rw [drop_at hx, List.any_cons] at hr
    cases met with
    | true =>
     rw [if_pos rfl]
     have := ih (j + 1) true (by omega) r (by simpa using hr)
     simp only [Int.natCast_add, Int.natCast_one] at this
     exact this
    | false =>
     rw [if_neg (by simp)]
     have := ih (j + 1) (eqU y o[j]) (by omega) r (by simpa only [Bool.false_or] using hr)
     simp only [Int.natCast_add, Int.natCast_one] at this
     exact this
  intro r h; apply e_spec_yNew_L3
  rw [if_pos (by simpa using hk), ixA_at sl_cUnit rfl hy]
  exact key o.length 0 false (by omega) r (by simpa only [Bool.false_or, List.drop_zero] using h)
def newsR (b : DBoard) (v w : DView) : List Int × List Int × List Int × List Int × Bool := if askV b v && (viewB b w && v.Side == w.Side) then (onlyL w.Seen v.Seen, onlyL v.Seen w.Seen, newL w.Enemies v.Enemies, newL v.Enemies w.Enemies, true) else ([], [], [], [], false)
theorem c_impl_NewsOf (b : DBoard) (v w : DView) (hn : BoardN b) (hv : ViewN v) (hw : ViewN w) : A_impl_NewsOf b v w = some (en_impl_NewsOf (newsR b v w)) := by
 have v1 := hv.s; have v2 := hv.e; have w1 := hw.s; have w2 := hw.e
 apply e_impl_NewsOf
 unfold newsR
 rw [cast_of inj_impl_hasView (c_impl_hasView _ _ hn hv)]
 cases h : askV b v with
 | false => rfl
 | true =>
  rw [if_neg (by simp), cast_of inj_impl_goodView (c_impl_goodView b (askV_b h).1 w hw hn)]
  cases viewB b w with
  | false => rfl
  | true =>
   rw [if_neg (by simp)]
   by_cases hs : v.Side = w.Side
   ·rw [if_neg (by simpa using hs), cast_of inj_impl_without (c_impl_without _ _ (by omega) (by omega)), cast_of inj_impl_without (c_impl_without _ _ (by omega) (by omega)), cast_of inj_impl_newUnits (c_impl_newUnits _ _ (by omega) (by omega)), cast_of inj_impl_newUnits (c_impl_newUnits _ _ (by omega) (by omega)), if_pos (by simpa using hs)]
    rfl
   ·rw [if_pos (by simpa using hs), if_neg (by simpa using hs)]
    rfl
theorem c_spec_NewsOf (b : DBoard) (v w : DView) (hn : BoardN b) (hv : ViewN v) (hw : ViewN w) : A_spec_NewsOf b v w = some (en_spec_NewsOf (newsR b v w)) := by
 have v1 := hv.s; have v2 := hv.e; have w1 := hw.s; have w2 := hw.e
 apply e_spec_NewsOf
 unfold newsR
 rw [cast_of inj_spec_yAsked (c_spec_yAsked _ _ hn hv)]
 cases h : askV b v with
 | false => rfl
 | true =>
  have e : askV b w = viewB b w := by unfold askV; rw [(askV_b h).1.ok, Bool.true_and]
  rw [if_neg (by simp), cast_of inj_spec_yAsked (c_spec_yAsked _ _ hn hw), e]
  cases viewB b w with
  | false => rfl
  | true =>
   rw [if_neg (by simp)]
   by_cases hs : v.Side = w.Side
   ·rw [if_neg (by simpa using hs), cast_of inj_spec_yOnly (c_spec_yOnly _ _ (by omega) (by omega)), cast_of inj_spec_yOnly (c_spec_yOnly _ _ (by omega) (by omega)), cast_of inj_spec_yNew (c_spec_yNew _ _ (by omega) (by omega)), cast_of inj_spec_yNew (c_spec_yNew _ _ (by omega) (by omega)), if_pos (by simpa using hs)]
    rfl
   ·rw [if_pos (by simpa using hs), if_neg (by simpa using hs)]
    rfl
def hereW (L st t : Nat) (w : Int) : Nat → Nat → List Int → List Int
 | 0, _, nx => nx
 | m + 1, h, nx => if t + h ≤ L then hereW L st t w m (h + 1) (nx.set (t + h) (IntKind.wrap .i64 (nx.getD (t + h) 0 + w))) else nx
def rowW (L st : Nat) : List Int → Nat → List Int → List Int
 | [], _, nx => nx
 | w :: r, t, nx => rowW L st r (t + 1) (hereW L st t w (st + 1) 0 nx)
def stepW (L st : Nat) (ways : List Int) : List Int := rowW L st ways 0 (List.replicate (L + 1) 0)
def iterW (L st : Nat) : Nat → List Int → List Int
 | 0, w => w
 | m + 1, w => iterW L st m (stepW L st w)
def startW (L : Nat) : List Int := (List.replicate (L + 1) (0 : Int)).set 0 1
theorem hereW_len (L st t : Nat) (w : Int) : ∀ (m h : Nat) (nx : List Int), (hereW L st t w m h nx).length = nx.length
 | 0, _, _ => rfl
 | m + 1, h, nx => by
  unfold hereW
  split
  ·rw [hereW_len L st t w m, List.length_set]
  ·rfl
theorem rowW_len (L st : Nat) : ∀ (r : List Int) (t : Nat) (nx : List Int), (rowW L st r t nx).length = nx.length
 | [], _, _ => rfl
 | w :: r, t, nx => by unfold rowW; rw [rowW_len L st r, hereW_len]
theorem stepW_len (L st : Nat) (w : List Int) : (stepW L st w).length = L + 1 := by unfold stepW; rw [rowW_len]; simp
theorem getD_take {l : List Int} {i m : Nat} (h : i < m) : (l.take m).getD i 0 = l.getD i 0 := by
 rw [List.getD_eq_getElem?_getD, List.getD_eq_getElem?_getD, List.getElem?_take, if_pos h]
theorem hereW_out (n L st t : Nat) (w : Int) : ∀ (m h : Nat) (A : List Int), n < t + h → (hereW L st t w m h A).take (n + 1) = A.take (n + 1)
 | 0, _, _, _ => rfl
 | m + 1, h, A, hh => by
  unfold hereW
  split
  ·rw [hereW_out n L st t w m (h + 1) _ (by omega), List.take_set, List.set_eq_of_length_le (by rw [List.length_take]; omega)]
  ·rfl
theorem hereW_take (n L st t : Nat) (w : Int) (hn : n ≤ L) : ∀ (m h : Nat) (A : List Int), (hereW L st t w m h A).take (n + 1) = hereW n st t w m h (A.take (n + 1))
 | 0, _, _ => rfl
 | m + 1, h, A => by
  unfold hereW
  by_cases h1 : t + h ≤ n
  ·rw [if_pos h1, if_pos (by omega), hereW_take n L st t w hn m, List.take_set, getD_take (by omega)]
  ·rw [if_neg h1]
   split
   ·rw [hereW_out n L st t w m (h + 1) _ (by omega), List.take_set, List.set_eq_of_length_le (by rw [List.length_take]; omega)]
   ·rfl
theorem rowW_out (n L st : Nat) : ∀ (r : List Int) (t : Nat) (A : List Int), n < t → (rowW L st r t A).take (n + 1) = A.take (n + 1)
 | [], _, _, _ => rfl
 | w :: r, t, A, h => by unfold rowW; rw [rowW_out n L st r (t + 1) _ (by omega), hereW_out n L st t w _ _ _ (by omega)]
theorem rowW_take (n L st : Nat) (hn : n ≤ L) : ∀ (r : List Int) (t : Nat) (A : List Int), t ≤ n + 1 → (rowW L st r t A).take (n + 1) = rowW n st (r.take (n + 1 - t)) t (A.take (n + 1))
 | [], t, A, _ => by simp [rowW]
 | w :: r, t, A, h => by
  by_cases ht : t ≤ n
  ·rw [show n + 1 - t = (n + 1 - (t + 1)) + 1 by omega, List.take_succ_cons]
   unfold rowW
   rw [rowW_take n L st hn r (t + 1) _ (by omega), hereW_take n L st t w hn]
  ·rw [show n + 1 - t = 0 by omega, List.take_zero, rowW_out n L st _ t A (by omega)]
   rfl
theorem stepW_take (n L st : Nat) (hn : n ≤ L) (w : List Int) : (stepW L st w).take (n + 1) = stepW n st (w.take (n + 1)) := by
 unfold stepW
 rw [rowW_take n L st hn w 0 _ (by omega), List.take_replicate, Nat.sub_zero, Nat.min_eq_left (by omega)]
theorem iterW_take (n L st : Nat) (hn : n ≤ L) : ∀ (m : Nat) (w : List Int), (iterW L st m w).take (n + 1) = iterW n st m (w.take (n + 1))
 | 0, _ => rfl
 | m + 1, w => by unfold iterW; rw [iterW_take n L st hn m, stepW_take n L st hn]
theorem startW_take (n L : Nat) (hn : n ≤ L) : (startW L).take (n + 1) = startW n := by
 unfold startW
 rw [List.take_set, List.take_replicate, Nat.min_eq_left (by omega)]
theorem cI_flat (y : Int) : ∀ z, z ∈ cI y → z.flat = true ∧ z ≠ .emp := by
 intro z hz
 unfold cI at hz
 simp only [List.mem_cons, List.not_mem_nil, or_false] at hz
 subst hz
 exact ⟨rfl, by simp⟩
theorem iterW_get (n L st m : Nat) (hn : n ≤ L) : (iterW L st m (startW L))[n]? = (iterW n st m (startW n))[n]? := by
 rw [← startW_take n L hn, ← iterW_take n L st hn, List.getElem?_take, if_pos (by omega)]
section
variable (b : DBoard) (st : Nat) (hst : b.Rules.Stack = st) (hs4 : st ≤ 10) (L : Nat) (hL : L ≤ 6) (n : Int) (hne : n = (L : Int))
include hst hs4 hL hne
theorem l_impl_CountHidings_L12 (ways : List Int) (t K k wn : Nat) (ht : t ≤ 10) (w x41 : Int) : ∀ (m h : Nat) (nx : List Int), h + m = st + 1 → nx.length = L + 1 →
  OLe (L_impl_CountHidings_L9 (hereW L st t w m h nx) ways b n 0 (L + 1) (L + 1) K k 0 wn wn x41 ((t : Int) + 1)) (L_impl_CountHidings_L12 nx ways b n 0 (L + 1) (L + 1) t w h K k 0 wn wn x41 t) := by
 intro m
 induction m with
 | zero =>
  intro h nx hh hl r hr
  apply e_impl_CountHidings_L12
  rw [if_neg (by rw [hst]; simp; omega), wrap_id (n := (t : Int) + 1) (by omega) (by omega)]
  exact hr
 | succ m ih =>
  intro h nx hh hl r hr
  apply e_impl_CountHidings_L12
  rw [if_pos (by rw [hst]; simp; omega), wrap_id (n := (t : Int) + h) (by omega) (by omega), wrap_id (n := (t : Int) + 1) (by omega) (by omega)]
  unfold hereW at hr
  by_cases h1 : t + h ≤ L
  ·rw [if_pos h1] at hr
   have hx : nx[t + h]? = some (nx.getD (t + h) 0) := by rw [List.getElem?_eq_getElem (by omega), List.getD_eq_getElem?_getD, List.getElem?_eq_getElem (by omega)]; rfl
   have e : (t : Int) + h = ((t + h : Nat) : Int) := by omega
   rw [e, if_pos (by simp; omega), oxA_at rt_cI rfl (by omega)]
   refine (ld_at (E := tI) rfl rfl ok_cI (fun _ => rfl) rfl rfl hx _).trans ?_
   rw [oxA_at rt_cI rfl (by omega), stE (y := IntKind.wrap .i64 (nx.getD (t + h) 0 + w)) ok_cI (by omega) rfl rfl (by omega) rfl rfl rfl (cI_flat _), wrap_id (n := (h : Int) + 1) (by omega) (by omega)]
   have := ih (h + 1) (nx.set (t + h) (IntKind.wrap .i64 (nx.getD (t + h) 0 + w))) (by omega) (by simp [hl]) r hr
   simp only [Int.natCast_add, Int.natCast_one] at this ⊢
   exact this
  ·rw [if_neg h1] at hr
   rw [if_neg (by simp; omega)]
   exact hr
theorem l_impl_CountHidings_L9 (ways : List Int) (K k : Nat) (hw : ways.length = L + 1) (hk : k < 1000000) : ∀ (r : List Int) (t : Nat) (nx : List Int), ways.drop t = r → nx.length = L + 1 →
  OLe (L_impl_CountHidings_L6 (rowW L st r t nx) b n 0 (L + 1) (L + 1) K ((k : Int) + 1)) (L_impl_CountHidings_L9 nx ways b n 0 (L + 1) (L + 1) K k 0 (L + 1) (L + 1) ((L + 1 : Nat) : Int) t) := by
 intro r
 induction r with
 | nil =>
  intro t nx hd hl r hr
  have : ways.length ≤ t := by simpa using hd
  apply e_impl_CountHidings_L9
  rw [if_neg (by simp; omega), wrap_id (n := (k : Int) + 1) (by omega) (by omega)]
  exact hr
 | cons w r ih =>
  intro t nx hd hl r1 hr
  have ht : t < ways.length := by
   have := congrArg List.length hd
   simp at this
   omega
  have hx : ways[t]? = some w := by
   have := congrArg (fun q => q[0]?) hd
   simpa using this
  have hd2 : ways.drop (t + 1) = r := by
   have := congrArg List.tail hd
   simpa using this
  apply e_impl_CountHidings_L9
  rw [if_pos (by simp; omega), oxA_at rt_cI rfl (by omega)]
  refine (ld_at (E := tI) rfl rfl ok_cI (fun _ => rfl) rfl rfl hx _).trans ?_
  refine l_impl_CountHidings_L12 b st hst hs4 L hL n hne ways t K k (L + 1) (by omega) w ((L + 1 : Nat) : Int) (st + 1) 0 nx (by omega) hl r1 ?_
  unfold rowW at hr
  have := ih (t + 1) (hereW L st t w (st + 1) 0 nx) hd2 (by rw [hereW_len]; exact hl) r1 hr
  simp only [Int.natCast_add, Int.natCast_one] at this ⊢
  exact this
theorem l_impl_CountHidings_L6 (p : Nat) (hp : n = p) (hpL : p ≤ L) (K : Nat) (hK : K ≤ 100000) : ∀ (m k : Nat) (ways : List Int), k + m = K → ways.length = L + 1 →
  L_impl_CountHidings_L6 ways b n 0 (L + 1) (L + 1) K k = some (en_impl_CountHidings ((iterW L st m ways).getD p 0, true)) := by
 intro m
 induction m with
 | zero =>
  intro k ways hk hl
  have hx : ways[p]? = some (ways.getD p 0) := by rw [List.getElem?_eq_getElem (by omega), List.getD_eq_getElem?_getD, List.getElem?_eq_getElem (by omega)]; rfl
  apply e_impl_CountHidings_L6
  rw [if_neg (by simp; omega), hp, oxA_at rt_cI rfl (by omega)]
  refine (ld_at (E := tI) rfl rfl ok_cI (fun _ => rfl) rfl rfl hx _).trans ?_
  rfl
 | succ m ih =>
  intro k ways hk hl
  apply e_impl_CountHidings_L6
  rw [if_pos (by simp; omega), wrap_id (n := n + 1) (by omega) (by omega), mkA_z rt_cI (z := 0) (by kernel_rfl) rfl (by omega) (by omega) (by omega), show (n + 1).toNat = L + 1 by omega]
  have hz : (List.replicate (L + 1) (0 : Int)).length = L + 1 := by simp
  rw [hz]
  refine l_impl_CountHidings_L9 b st hst hs4 L hL n hne ways K k hl (by omega) ways 0 (List.replicate (L + 1) 0) rfl hz _ ?_
  have := ih (k + 1) (stepW L st ways) (by omega) (stepW_len L st ways)
  simp only [Int.natCast_add, Int.natCast_one] at this
  exact this
end
section
variable (b : DBoard) (st : Nat) (hst : b.Rules.Stack = st) (hs4 : st ≤ 10) (L : Nat) (hL : L ≤ 6) (n : Int) (hne : L = 6)
include hst hs4 hL hne
theorem l_spec_CountHidings_L12 (ways : List Int) (t K k wn : Nat) (ht : t ≤ 10) (w x41 : Int) : ∀ (m h : Nat) (nx : List Int), h + m = st + 1 → nx.length = L + 1 →
  OLe (L_spec_CountHidings_L9 (hereW L st t w m h nx) ways b n 0 (L + 1) (L + 1) K k 0 wn wn x41 ((t : Int) + 1)) (L_spec_CountHidings_L12 nx ways b n 0 (L + 1) (L + 1) t w h K k 0 wn wn x41 t) := by
 intro m
 induction m with
 | zero =>
  intro h nx hh hl r hr
  apply e_spec_CountHidings_L12
  rw [if_neg (by rw [hst]; simp; omega), wrap_id (n := (t : Int) + 1) (by omega) (by omega)]
  exact hr
 | succ m ih =>
  intro h nx hh hl r hr
  apply e_spec_CountHidings_L12
  rw [if_pos (by rw [hst]; simp; omega), wrap_id (n := (t : Int) + h) (by omega) (by omega), wrap_id (n := (t : Int) + 1) (by omega) (by omega)]
  unfold hereW at hr
  by_cases h1 : t + h ≤ L
  ·rw [if_pos h1] at hr
   have hx : nx[t + h]? = some (nx.getD (t + h) 0) := by rw [List.getElem?_eq_getElem (by omega), List.getD_eq_getElem?_getD, List.getElem?_eq_getElem (by omega)]; rfl
   have e : (t : Int) + h = ((t + h : Nat) : Int) := by omega
   rw [e, if_pos (by simp; omega), oxA_at rt_cI rfl (by omega)]
   refine (ld_at (E := tI) rfl rfl ok_cI (fun _ => rfl) rfl rfl hx _).trans ?_
   rw [oxA_at rt_cI rfl (by omega), stE (y := IntKind.wrap .i64 (nx.getD (t + h) 0 + w)) ok_cI (by omega) rfl rfl (by omega) rfl rfl rfl (cI_flat _), wrap_id (n := (h : Int) + 1) (by omega) (by omega)]
   have := ih (h + 1) (nx.set (t + h) (IntKind.wrap .i64 (nx.getD (t + h) 0 + w))) (by omega) (by simp [hl]) r hr
   simp only [Int.natCast_add, Int.natCast_one] at this ⊢
   exact this
  ·rw [if_neg h1] at hr
   rw [if_neg (by simp; omega)]
   exact hr
theorem l_spec_CountHidings_L9 (ways : List Int) (K k : Nat) (hw : ways.length = L + 1) (hk : k < 1000000) : ∀ (r : List Int) (t : Nat) (nx : List Int), ways.drop t = r → nx.length = L + 1 →
  OLe (L_spec_CountHidings_L6 (rowW L st r t nx) b n 0 (L + 1) (L + 1) K ((k : Int) + 1)) (L_spec_CountHidings_L9 nx ways b n 0 (L + 1) (L + 1) K k 0 (L + 1) (L + 1) ((L + 1 : Nat) : Int) t) := by
 intro r
 induction r with
 | nil =>
  intro t nx hd hl r hr
  have : ways.length ≤ t := by simpa using hd
  apply e_spec_CountHidings_L9
  rw [if_neg (by simp; omega), wrap_id (n := (k : Int) + 1) (by omega) (by omega)]
  exact hr
 | cons w r ih =>
  intro t nx hd hl r1 hr
  have ht : t < ways.length := by
   have := congrArg List.length hd
   simp at this
   omega
  have hx : ways[t]? = some w := by
   have := congrArg (fun q => q[0]?) hd
   simpa using this
  have hd2 : ways.drop (t + 1) = r := by
   have := congrArg List.tail hd
   simpa using this
  apply e_spec_CountHidings_L9
  rw [if_pos (by simp; omega), oxA_at rt_cI rfl (by omega)]
  refine (ld_at (E := tI) rfl rfl ok_cI (fun _ => rfl) rfl rfl hx _).trans ?_
  refine l_spec_CountHidings_L12 b st hst hs4 L hL n hne ways t K k (L + 1) (by omega) w ((L + 1 : Nat) : Int) (st + 1) 0 nx (by omega) hl r1 ?_
  unfold rowW at hr
  have := ih (t + 1) (hereW L st t w (st + 1) 0 nx) hd2 (by rw [hereW_len]; exact hl) r1 hr
  simp only [Int.natCast_add, Int.natCast_one] at this ⊢
  exact this
theorem l_spec_CountHidings_L6 (p : Nat) (hp : n = p) (hpL : p ≤ L) (K : Nat) (hK : K ≤ 100000) : ∀ (m k : Nat) (ways : List Int), k + m = K → ways.length = L + 1 →
  L_spec_CountHidings_L6 ways b n 0 (L + 1) (L + 1) K k = some (en_spec_CountHidings ((iterW L st m ways).getD p 0, true)) := by
 intro m
 induction m with
 | zero =>
  intro k ways hk hl
  have hx : ways[p]? = some (ways.getD p 0) := by rw [List.getElem?_eq_getElem (by omega), List.getD_eq_getElem?_getD, List.getElem?_eq_getElem (by omega)]; rfl
  apply e_spec_CountHidings_L6
  rw [if_neg (by simp; omega), hp, oxA_at rt_cI rfl (by omega)]
  refine (ld_at (E := tI) rfl rfl ok_cI (fun _ => rfl) rfl rfl hx _).trans ?_
  rfl
 | succ m ih =>
  intro k ways hk hl
  apply e_spec_CountHidings_L6
  rw [if_pos (by simp; omega), mkA_z rt_cI (z := 0) (by kernel_rfl) rfl (by omega) (by omega) (by omega), show (7 : Int).toNat = L + 1 by omega]
  have hz : (List.replicate (L + 1) (0 : Int)).length = L + 1 := by simp
  rw [hz]
  refine l_spec_CountHidings_L9 b st hst hs4 L hL n hne ways K k hl (by omega) ways 0 (List.replicate (L + 1) 0) rfl hz _ ?_
  have := ih (k + 1) (stepW L st ways) (by omega) (stepW_len L st ways)
  simp only [Int.natCast_add, Int.natCast_one] at this
  exact this
end
def cntHR (b : DBoard) (v : DView) (kind n : Int) : Int × Bool := if askH b v kind && inB 0 6 n then ((iterW n.toNat b.Rules.Stack.toNat (hideL b v kind).length (startW n.toNat)).getD n.toNat 0, true) else (0, false)
theorem c_impl_CountHidings (b : DBoard) (v : DView) (kind n : Int) (hn : BoardN b) (hv : ViewN v) : A_impl_CountHidings b v kind n = some (en_impl_CountHidings (cntHR b v kind n)) := by
 apply e_impl_CountHidings
 unfold cntHR
 rw [cast_of inj_impl_isHiding (c_impl_isHiding _ _ _ hn hv)]
 cases h : askH b v kind with
 | false => rfl
 | true =>
  unfold askH at h
  rw [Bool.and_eq_true, inB_iff] at h
  have g := (askV_b h.1).1
  have hst := stack_b g
  have hln : (hideL b v kind).length ≤ b.Map.Terrain.length := colI_len _ _ _
  have har := (area_b g).2
  rw [if_neg (by simp), kk_impl_inRange]
  cases hi : inB 0 6 n with
  | false => rfl
  | true =>
   rw [inB_iff] at hi
   obtain ⟨L, rfl⟩ : ∃ L : Nat, n = L := ⟨n.toNat, by omega⟩
   rw [if_neg (by simp), wrap_id (n := (L : Int) + 1) (by omega) (by omega), mkA_z rt_cI (z := 0) (by kernel_rfl) rfl (by omega) (by omega) (by omega), show ((L : Int) + 1).toNat = L + 1 by omega, show ((L : Int)).toNat = L by omega]
   have hz : (List.replicate (L + 1) (0 : Int)).length = L + 1 := by simp
   rw [hz, oxA_at (i := 0) (j := 0) rt_cI rfl (by omega), stE (j := 0) (y := 1) ok_cI (by omega) rfl rfl (by omega) rfl rfl rfl (cI_flat _), cast_of inj_impl_mayHide (c_impl_mayHide b g hn v hv _ h.2.1 (by omega))]
   have := l_impl_CountHidings_L6 b b.Rules.Stack.toNat (by omega) (by omega) L (by omega) L rfl L rfl (Nat.le_refl _) (hideL b v kind).length (by omega) (hideL b v kind).length 0 (startW L) (by omega) (by unfold startW; simp)
   exact this
theorem c_spec_CountHidings (b : DBoard) (v : DView) (kind n : Int) (hn : BoardN b) (hv : ViewN v) : A_spec_CountHidings b v kind n = some (en_spec_CountHidings (cntHR b v kind n)) := by
 apply e_spec_CountHidings
 unfold cntHR askH
 rw [cast_of inj_spec_yAsked (c_spec_yAsked _ _ hn hv)]
 cases h : askV b v with
 | false => rfl
 | true =>
  have g := (askV_b h).1
  have hst := stack_b g
  have hln : (hideL b v kind).length ≤ b.Map.Terrain.length := colI_len _ _ _
  have har := (area_b g).2
  rw [if_neg (by simp), cast_of inj_spec_bAt (c_spec_bAt _ _ _ hn), bAt_zero g]
  cases hk : inB 0 ((b.Rules.Kinds.length : Int) - 1) kind with
  | false => rfl
  | true =>
   rw [inB_iff] at hk
   rw [if_neg (by simp), kk_spec_l1In]
   cases hi : inB 0 6 n with
   | false => rfl
   | true =>
    rw [inB_iff] at hi
    obtain ⟨p, rfl⟩ : ∃ p : Nat, n = p := ⟨n.toNat, by omega⟩
    rw [if_neg (by simp), mkA_z rt_cI (z := 0) (by kernel_rfl) rfl (by omega) (by omega) (by omega), show (7 : Int).toNat = 6 + 1 by omega, show ((p : Int)).toNat = p by omega]
    have hz : (List.replicate (6 + 1) (0 : Int)).length = 6 + 1 := by simp
    rw [hz, oxA_at (i := 0) (j := 0) rt_cI rfl (by omega), stE (j := 0) (y := 1) ok_cI (by omega) rfl rfl (by omega) rfl rfl rfl (cI_flat _), cast_of inj_spec_yHide (c_spec_yHide b g hn v hv _ hk.1 (by omega))]
    have := l_spec_CountHidings_L6 b b.Rules.Stack.toNat (by omega) (by omega) 6 (by omega) p rfl p rfl (by omega) (hideL b v kind).length (by omega) (hideL b v kind).length 0 (startW 6) (by omega) (by unfold startW; simp)
    have e : (iterW 6 b.Rules.Stack.toNat (hideL b v kind).length (startW 6)).getD p 0 = (iterW p b.Rules.Stack.toNat (hideL b v kind).length (startW p)).getD p 0 := by
     rw [List.getD_eq_getElem?_getD, List.getD_eq_getElem?_getD, iterW_get p 6 _ _ (by omega)]
    rw [e] at this
    exact this
def hidK (b : DBoard) (v : DView) (ks : List Nat) (k : Int) : Bool := ks.any fun kind => decide (k ∈ hideL b v (kind : Int))
def hidB (b : DBoard) (v : DView) (k : Int) : Bool := hidK b v (List.range b.Rules.Kinds.length) k
def setAll (H : List Bool) (l : List Int) : List Bool := l.foldl (fun h k => h.set k.toNat true) H
theorem setAll_len : ∀ (l : List Int) (H : List Bool), (setAll H l).length = H.length
 | [], _ => rfl
 | k :: l, H => by
  show (setAll (H.set k.toNat true) l).length = _
  rw [setAll_len l, List.length_set]
theorem setAll_get : ∀ (l : List Int) (H : List Bool) (k : Int), (∀ x ∈ l, 0 ≤ x ∧ x < H.length) → 0 ≤ k → k < H.length → getI (setAll H l) k = (getI H k).map fun h => h || decide (k ∈ l)
 | [], H, k, _, h0, h1 => by
  obtain ⟨x, hx⟩ := getI_ex (l := H) h0 h1
  simp [setAll, hx]
 | a :: l, H, k, hl, h0, h1 => by
  have ha := hl a (by simp)
  have ih := setAll_get l (H.set a.toNat true) k (fun x hx => by rw [List.length_set]; exact hl x (by simp [hx])) h0 (by rw [List.length_set]; exact h1)
  show getI (setAll (H.set a.toNat true) l) k = _
  rw [ih, getI_setB ha.1 ha.2]
  obtain ⟨x, hx⟩ := getI_ex (l := H) h0 h1
  by_cases e : k = a
  ·rw [if_pos e, hx]; simp [e]
  ·rw [if_neg e, hx]; simp [e]
theorem hide_on {b : DBoard} (g : BoardG b) {v : DView} {kind k : Int} (h : k ∈ hideL b v kind) : onB b k := by
 obtain ⟨j, x, hj, _, rfl⟩ := mem_colI.1 h
 have := (List.getElem?_eq_some_iff.1 hj).1
 have := g.area
 exact ⟨by omega, by omega⟩
theorem cB_flat (y : Bool) : ∀ z, z ∈ cB y → z.flat = true ∧ z ≠ .emp := by
 intro z hz
 unfold cB at hz
 simp only [List.mem_cons, List.not_mem_nil, or_false] at hz
 subst hz
 exact ⟨rfl, by simp⟩
def cntN (q : Int → Bool) (l : List Int) : Int := ((l.filter q).length : Int)
section
variable (b : DBoard) (g : BoardG b) (hn : BoardN b) (v : DView) (hv : ViewN v)
include g hn hv
theorem l_impl_HiddenThreat_L15 (H : List Bool) (N : Nat) (hN : H.length = N) (q : Int → Bool) (l : List Int) (hl : l.length ≤ 100) (hq : ∀ k ∈ l, 0 ≤ k ∧ k < N ∧ getI H k = some (q k)) : ∀ (m j : Nat) (c : Int), j + m = l.length → 0 ≤ c → c ≤ j →
  L_impl_HiddenThreat_L15 H b 0 N N c l l.length j = some (en_impl_HiddenThreat (b.Rules.Stack * (c + cntN q (l.drop j)), true)) := by
 have hst := stack_b g
 intro m
 induction m with
 | zero =>
  intro j c hj h0 h1
  apply e_impl_HiddenThreat_L15
  have hm : 0 ≤ b.Rules.Stack * c ∧ b.Rules.Stack * c ≤ 400 := by
   have p1 := Int.mul_nonneg (show 0 ≤ b.Rules.Stack by omega) h0
   have p2 := Int.mul_le_mul (show b.Rules.Stack ≤ 4 by omega) (show c ≤ 100 by omega) h0 (by omega)
   omega
  rw [if_neg (by simp; omega), List.drop_eq_nil_of_le (by omega), wrap_id (by omega) (by omega)]
  simp [cntN, en_impl_HiddenThreat]
 | succ m ih =>
  intro j c hj h0 h1
  have hj2 : j < l.length := by omega
  have hx : l[j]? = some l[j] := List.getElem?_eq_getElem hj2
  obtain ⟨q0, q1, q2⟩ := hq _ (mem_of_get hx)
  obtain ⟨k, hk⟩ : ∃ k : Nat, l[j] = (k : Int) := ⟨l[j].toNat, by omega⟩
  rw [hk] at q0 q1 q2
  rw [getI_nat] at q2
  apply e_impl_HiddenThreat_L15
  rw [if_pos (by simp; omega), ixA_at sl_cI rfl hx, drop_at hx, hk, oxA_at (j := k) rt_cB rfl (by omega)]
  refine (ld_at (E := tB) rfl rfl ok_cB (fun _ => rfl) rfl rfl q2 _).trans ?_
  rw [wrap_id (n := (j : Int) + 1) (by omega) (by omega), wrap_id (n := c + 1) (by omega) (by omega)]
  have ih1 := fun c h h' => ih (j + 1) c (by omega) h h'
  simp only [Int.natCast_add, Int.natCast_one] at ih1
  unfold cntN at ih1 ⊢
  rw [List.filter_cons]
  cases q (k : Int) with
  | true =>
   rw [if_pos rfl, if_pos rfl, ih1 _ (by omega) (by omega), List.length_cons]
   congr 3
   congr 1
   omega
  | false => rw [if_neg (by simp), if_neg (by simp), ih1 _ (by omega) (by omega)]
theorem l_impl_HiddenThreat_L5 (i : Int) (hi : onB b i) : ∀ (m k : Nat) (H : List Bool), k + m = b.Rules.Kinds.length → H.length = b.Map.Terrain.length → (∀ x, onB b x → getI H x = some (hidK b v (List.range k) x)) →
  L_impl_HiddenThreat_L5 H b v i 0 b.Map.Terrain.length b.Map.Terrain.length b.Rules.Kinds.length k = some (en_impl_HiddenThreat (b.Rules.Stack * cntN (hidB b v) (nbL b.Map i), true)) := by
 have har := g.area
 have hmt := hn.m.t
 have hk1 := g.k1
 intro m
 induction m with
 | zero =>
  intro k H hk hl hH
  apply e_impl_HiddenThreat_L5
  have hnb : (nbL b.Map i).length ≤ 6 := by unfold nbL; exact List.length_filter_le _ _
  have hkk : k = b.Rules.Kinds.length := by omega
  rw [if_neg (by simp; omega), cast_of inj_impl_neighboursOn (c_impl_neighboursOn _ _ g.s.b (by have := hi.1; have := hi.2; unfold sm; omega))]
  have := l_impl_HiddenThreat_L15 b g hn v hv H b.Map.Terrain.length hl (hidB b v) (nbL b.Map i) (by omega) (fun x hx => by
   obtain ⟨x0, d, _, e, _⟩ := nb_step hx
   have x1 : x < b.Map.Width * b.Map.Height := by rw [e]; exact nextL_area g.w0 g.h0 i d
   refine ⟨x0, by omega, ?_⟩
   rw [hH x ⟨x0, x1⟩, hkk]
   rfl) (nbL b.Map i).length 0 0 (by omega) (by omega) (by omega)
  simp only [Int.natCast_zero, Int.ofNat_zero, List.drop_zero, Int.zero_add] at this
  exact this
 | succ m ih =>
  intro k H hk hl hH
  apply e_impl_HiddenThreat_L5
  rw [if_pos (by simp; omega), cast_of inj_impl_mayHide (c_impl_mayHide b g hn v hv (k : Int) (by omega) (by omega))]
  have hon := fun x hx => hide_on g (v := v) (kind := (k : Int)) (k := x) hx
  have hln : (hideL b v (k : Int)).length ≤ b.Map.Terrain.length := colI_len _ _ _
  have fin := ih (k + 1) (setAll H (hideL b v (k : Int))) (by omega) (by rw [setAll_len]; exact hl) (fun x hx => by
   rw [setAll_get _ _ _ (fun y hy => by have := hon y hy; have h1 := this.1; have h2 := this.2; omega) hx.1 (by have := hx.2; omega), hH x hx]
   unfold hidK
   rw [List.range_succ, List.any_append]
   simp)
  simp only [Int.natCast_add, Int.natCast_one] at fin
  generalize hideL b v (k : Int) = l at hon hln fin
  have key : ∀ (p j : Nat) (H2 : List Bool), j + p = l.length → H2.length = b.Map.Terrain.length → setAll H2 (l.drop j) = setAll H l →
    L_impl_HiddenThreat_L8 H2 b v i 0 b.Map.Terrain.length b.Map.Terrain.length b.Rules.Kinds.length k l l.length j = some (en_impl_HiddenThreat (b.Rules.Stack * cntN (hidB b v) (nbL b.Map i), true)) := by
   intro p
   induction p with
   | zero =>
    intro j H2 hj hl2 he
    apply e_impl_HiddenThreat_L8
    rw [if_neg (by simp; omega), wrap_id (n := (k : Int) + 1) (by omega) (by omega)]
    rw [List.drop_eq_nil_of_le (by omega)] at he
    rw [show H2 = setAll H l from he]
    exact fin
   | succ p ihp =>
    intro j H2 hj hl2 he
    have hj2 : j < l.length := by omega
    have hx : l[j]? = some l[j] := List.getElem?_eq_getElem hj2
    have ho := hon _ (mem_of_get hx)
    obtain ⟨a, ha⟩ : ∃ a : Nat, l[j] = (a : Int) := ⟨l[j].toNat, by have := ho.1; omega⟩
    rw [ha] at ho
    have ho2 := ho.2
    apply e_impl_HiddenThreat_L8
    rw [if_pos (by simp; omega), ixA_at sl_cI rfl hx, ha, oxA_at (j := a) rt_cB rfl (by omega), stE (j := a) (y := true) ok_cB (by omega) rfl rfl (by omega) rfl rfl rfl (cB_flat _), wrap_id (n := (j : Int) + 1) (by omega) (by omega)]
    have := ihp (j + 1) (H2.set a true) (by omega) (by rw [List.length_set]; exact hl2) (by
     rw [drop_at hx, ha] at he
     exact he)
    simp only [Int.natCast_add, Int.natCast_one] at this
    exact this
  exact key l.length 0 H (by omega) hl rfl
theorem l_spec_HiddenThreat_L10 (i : Int) (c : Int) (d : Nat) (k : Int) (R : R) : ∀ (m j : Nat) (h : Bool), j + m = b.Rules.Kinds.length → (k < b.Map.Width * b.Map.Height) →
  (L_spec_HiddenThreat_L5 b v i (if (h || (decide (0 ≤ k) && hidK b v (List.range' j m) k)) = true then IntKind.wrap .i64 (c + b.Rules.Stack) else c) (IntKind.wrap .i64 ((d : Int) + 1)) = some R) → L_spec_HiddenThreat_L10 b v i c d k h b.Rules.Kinds.length j = some R := by
 have hk1 := g.k1
 have hmt := hn.m.t
 intro m
 induction m with
 | zero =>
  intro j h hj hk hr
  apply e_spec_HiddenThreat_L10
  rw [if_neg (by simp; omega)]
  simp only [List.range'_zero, hidK, List.any_nil, Bool.and_false, Bool.or_false] at hr
  cases h with
  | true => rw [if_pos rfl] at hr ⊢; exact hr
  | false => rw [if_neg (by simp)] at hr ⊢; exact hr
 | succ m ih =>
  intro j h hj hk hr
  apply e_spec_HiddenThreat_L10
  rw [if_pos (by simp; omega), wrap_id (n := (j : Int) + 1) (by omega) (by omega)]
  unfold hidK at hr
  rw [List.range'_succ, List.any_cons] at hr
  have ih1 := fun h hr => ih (j + 1) h (by omega) hk hr
  unfold hidK at ih1
  simp only [Int.natCast_add, Int.natCast_one] at ih1
  cases h with
  | true =>
   rw [if_pos rfl]
   exact ih1 true (by simpa using hr)
  | false =>
   rw [if_neg (by simp)]
   by_cases h0 : 0 ≤ k
   ·have hln : (hideL b v (j : Int)).length ≤ b.Map.Terrain.length := colI_len _ _ _
    rw [if_pos (by simpa using h0), cast_of inj_spec_yHide (c_spec_yHide b g hn v hv (j : Int) (by omega) (by omega)), cast_of inj_spec_l1Has (c_spec_l1Has _ _ (by omega))]
    refine ih1 _ ?_
    rw [show decide (0 ≤ k) = true by simpa using h0, Bool.true_and] at hr ⊢
    rw [Bool.false_or] at hr
    exact hr
   ·rw [if_neg (by simpa using h0)]
    refine ih1 false ?_
    rw [show decide (0 ≤ k) = false by simpa using h0, Bool.false_and] at hr ⊢
    exact hr
theorem l_spec_HiddenThreat_L5 (i : Int) (hi : onB b i) : ∀ (m d : Nat) (c : Int), d + m = 6 → 0 ≤ c → c ≤ 4 * d →
  L_spec_HiddenThreat_L5 b v i c d = some (en_spec_HiddenThreat (c + b.Rules.Stack * cntN (fun d => decide (0 ≤ nextL b.Map i d) && hidB b v (nextL b.Map i d)) (dl.drop d), true)) := by
 have har := g.area
 have hmt := hn.m.t
 have hst := stack_b g
 intro m
 induction m with
 | zero =>
  intro d c hd h0 h1
  apply e_spec_HiddenThreat_L5
  rw [if_neg (by simp; omega), List.drop_eq_nil_of_le (by simp [dl]; omega)]
  simp [cntN, en_spec_HiddenThreat]
 | succ m ih =>
  intro d c hd h0 h1
  have hdl : dl[d]? = some (d : Int) := by
   have : d < dl.length := by simp [dl]; omega
   rw [List.getElem?_eq_getElem this]
   have := (dl_get (List.getElem?_eq_getElem this)).1
   rw [this]
  apply e_spec_HiddenThreat_L5
  rw [if_pos (by simp; omega), cast_of inj_spec_mNext (c_spec_mNext _ _ _ g.s.b (by have := hi.1; have := hi.2; unfold sm; omega) (by omega) (by omega))]
  refine l_spec_HiddenThreat_L10 b g hn v hv i c d (nextL b.Map i d) _ b.Rules.Kinds.length 0 false (by omega) (nextL_area g.w0 g.h0 i d) ?_
  rw [wrap_id (n := (d : Int) + 1) (by omega) (by omega), wrap_id (n := c + b.Rules.Stack) (by omega) (by omega), drop_at hdl, ← List.range_eq_range']
  have ih1 := fun c h h' => ih (d + 1) c (by omega) h h'
  simp only [Int.natCast_add, Int.natCast_one] at ih1
  unfold cntN at ih1 ⊢
  rw [List.filter_cons]
  show L_spec_HiddenThreat_L5 b v i (if (false || (decide (0 ≤ nextL b.Map i d) && hidB b v (nextL b.Map i d))) = true then c + b.Rules.Stack else c) ((d : Int) + 1) = _
  rw [Bool.false_or]
  cases decide (0 ≤ nextL b.Map i d) && hidB b v (nextL b.Map i d) with
  | true =>
   rw [if_pos rfl, if_pos rfl, ih1 _ (by omega) (by omega), List.length_cons]
   congr 3
   rw [Int.natCast_add, Int.natCast_one, Int.mul_add, Int.mul_one]
   omega
  | false => rw [if_neg (by simp), if_neg (by simp), ih1 _ (by omega) (by omega)]
end
theorem cnt_nb (m : DMap) (i : Int) (q : Int → Bool) : cntN q (nbL m i) = cntN (fun d => decide (0 ≤ nextL m i d) && q (nextL m i d)) dl := by
 unfold cntN nbL
 generalize dl = l
 induction l with
 | nil => rfl
 | cons d l ih =>
  rw [List.map_cons, List.filter_cons, List.filter_cons]
  cases h : decide (0 ≤ nextL m i d) with
  | false => simpa using ih
  | true =>
   rw [if_pos rfl, List.filter_cons]
   cases q (nextL m i d) with
   | false => simpa using ih
   | true =>
    simp only [Bool.and_self, if_true, List.length_cons, Int.natCast_add, Int.natCast_one]
    omega
def thrR (b : DBoard) (v : DView) (i : Int) : Int × Bool := if askV b v && inB 0 (b.Map.Width * b.Map.Height - 1) i then (b.Rules.Stack * cntN (hidB b v) (nbL b.Map i), true) else (0, false)
theorem c_impl_HiddenThreat (b : DBoard) (v : DView) (i : Int) (hn : BoardN b) (hv : ViewN v) : A_impl_HiddenThreat b v i = some (en_impl_HiddenThreat (thrR b v i)) := by
 apply e_impl_HiddenThreat
 unfold thrR
 rw [cast_of inj_impl_hasView (c_impl_hasView _ _ hn hv)]
 cases h : askV b v with
 | false => rfl
 | true =>
  have g := (askV_b h).1
  have har := g.area
  have hmt := hn.m.t
  rw [if_neg (by simp), cast_of inj_impl_sizeOf (c_impl_sizeOf _), cast_of inj_impl_isIndex (c_impl_isIndex _ _ (by omega) (by omega)), har]
  cases hi : inB 0 (b.Map.Width * b.Map.Height - 1) i with
  | false => rfl
  | true =>
   rw [inB_iff] at hi
   rw [if_neg (by simp), cast_of inj_impl_sizeOf (c_impl_sizeOf _), mkA_z rt_cB (z := false) (by kernel_rfl) rfl (by omega) (by omega) (by omega), show ((b.Map.Terrain.length : Int)).toNat = b.Map.Terrain.length by omega]
   have hz : (List.replicate b.Map.Terrain.length false).length = b.Map.Terrain.length := by simp
   rw [hz]
   exact l_impl_HiddenThreat_L5 b g hn v hv i ⟨hi.1, by omega⟩ b.Rules.Kinds.length 0 _ (by omega) hz (fun x hx => by
    have hx1 := hx.1
    have hx2 := hx.2
    obtain ⟨k, rfl⟩ : ∃ k : Nat, x = k := ⟨x.toNat, by omega⟩
    rw [getI_nat, List.getElem?_replicate, if_pos (by omega)]
    rfl)
theorem c_spec_HiddenThreat (b : DBoard) (v : DView) (i : Int) (hn : BoardN b) (hv : ViewN v) : A_spec_HiddenThreat b v i = some (en_spec_HiddenThreat (thrR b v i)) := by
 apply e_spec_HiddenThreat
 unfold thrR
 rw [cast_of inj_spec_yAsked (c_spec_yAsked _ _ hn hv)]
 cases h : askV b v with
 | false => rfl
 | true =>
  have g := (askV_b h).1
  have hk0 := g.k0
  have e : bAtB b 0 i = inB 0 (b.Map.Width * b.Map.Height - 1) i := by
   unfold bAtB
   rw [g.ok, Bool.true_and, show inB 0 ((b.Rules.Kinds.length : Int) - 1) 0 = true from inB_iff.2 ⟨by omega, by omega⟩, Bool.true_and]
  rw [if_neg (by simp), cast_of inj_spec_bAt (c_spec_bAt _ _ _ hn), e]
  cases hi : inB 0 (b.Map.Width * b.Map.Height - 1) i with
  | false => rfl
  | true =>
   rw [inB_iff] at hi
   rw [if_neg (by simp), cnt_nb]
   have := l_spec_HiddenThreat_L5 b g hn v hv i ⟨hi.1, by omega⟩ 6 0 0 (by omega) (by omega) (by omega)
   simp only [Int.natCast_zero, Int.ofNat_zero, List.drop_zero, Int.zero_add] at this
   exact this
theorem inj_view : Inj fun a : DView => AV.agg [I a.Side, I a.Turn, I a.Weather, slc cI a.Seen, slc cUnit a.Own, slc cUnit a.Enemies] := fun a b h => (cView_eq a b).1 (by injection h)
theorem gvView {σ : Store} {f : Bool} {i0 i1 i2 : Id} (v : DView) (h0 : σ.get? i0 = some (rowB f false 1 cI v.Seen)) (h1 : σ.get? i1 = some (rowB f false 4 cUnit v.Own)) (h2 : σ.get? i2 = some (rowB f false 4 cUnit v.Enemies)) :
  giveUpV σ (.agg [I v.Side, I v.Turn, I v.Weather, .own i0 none 0 v.Seen.length v.Seen.length, .own i1 none 0 v.Own.length v.Own.length, .own i2 none 0 v.Enemies.length v.Enemies.length]) = some (.agg (cView v)) :=
 gvV (gvL_cons rfl (gvL_cons rfl (gvL_cons rfl (gvL_cons (giveR ok_cI h0) (gvL_cons (giveR ok_cUnit h1) (gvL_cons (giveR ok_cUnit h2) rfl))))))
abbrev aB (a : DBoard) : AV := AV.agg [slc cTerrain a.Rules.Terrains, slc cKind a.Rules.Kinds, I a.Rules.Stack, I a.Rules.River, I a.Rules.Road, I a.Rules.Supply, I a.Rules.Turns, I a.Map.Width, I a.Map.Height, slc cI a.Map.Terrain, slc cI a.Map.Rivers, slc cI a.Map.Roads]
abbrev aV (a : DView) : AV := AV.agg [I a.Side, I a.Turn, I a.Weather, slc cI a.Seen, slc cUnit a.Own, slc cUnit a.Enemies]
theorem inj_bvi : Inj fun a : DBoard × DView × Int => AV.tup [aB a.fst, aV a.snd.fst, I a.snd.snd] := fun a b h => by
 injection h with h
 injection h with h1 h
 injection h with h2 h
 injection h with h3 h
 injection h3 with h3
 injection h3 with _ h3
 exact Prod.ext (inj_board _ _ h1) (Prod.ext (inj_view _ _ h2) h3)
theorem inj_bvii : Inj fun a : DBoard × DView × Int × Int => AV.tup [aB a.fst, aV a.snd.fst, I a.snd.snd.fst, I a.snd.snd.snd] := fun a b h => by
 injection h with h
 injection h with h1 h
 injection h with h2 h
 injection h with h3 h
 injection h with h4 h
 injection h3 with h3
 injection h3 with _ h3
 injection h4 with h4
 injection h4 with _ h4
 exact Prod.ext (inj_board _ _ h1) (Prod.ext (inj_view _ _ h2) (Prod.ext h3 h4))
theorem inj_bvv : Inj fun a : DBoard × DView × DView => AV.tup [aB a.fst, aV a.snd.fst, aV a.snd.snd] := fun a b h => by
 injection h with h
 injection h with h1 h
 injection h with h2 h
 injection h with h3 h
 exact Prod.ext (inj_board _ _ h1) (Prod.ext (inj_view _ _ h2) (inj_view _ _ h3))
theorem o_sc_kindOf (c : Dl1Cur) (b : DBoard) (n : Int) (hc : Cu c n) (hn : n ≤ Far - 1000) : ∃ v, A_sc_kindOf c b = some (en_sc_kindOf v) ∧ Cu v.2 (n + 10) := by
 refine okA (e_sc_kindOf _ _) ?_
 refine koA inj_sc_pick (o_sc_pick _ _ _ hc (by unfold Far at *; omega)) fun p hp => ?_
 refine koA inj_sc_pick (o_sc_pick _ _ _ hp.2.2 (by unfold Far at *; omega)) fun q hq => ?_
 refine koA inj_sc_pick (o_sc_pick _ _ _ hq.2.2 (by unfold Far at *; omega)) fun r hr => ?_
 exact OK.some ⟨(_, _), rfl, hr.2.2.to⟩
abbrev ViewQ (n : Int) (v : (DBoard × DView) × Dl1Cur) : Prop := BoardN v.1.1 ∧ ViewN v.1.2 ∧ Cu v.2 n
theorem o_sc_view (c : Dl1Cur) (n : Int) (hc : Cu c n) (hn : n ≤ Far - 900000) : ∃ v, A_sc_view c = some (en_sc_view v) ∧ ViewQ (n + 50000) v := by
 refine okA (e_sc_view _) ?_
 unfold Far at hn
 refine koA inj_sc_close (o_sc_close _ _ hc (by unfold Far; omega)) fun r hr => ?_
 obtain ⟨⟨b, s⟩, c1⟩ := r
 obtain ⟨hb, h1, h20, hc1⟩ := hr
 dsimp only at hb h1 h20 hc1 ⊢
 refine koA inj_sc_pick (o_sc_pick _ _ _ hc1 (by unfold Far; omega)) fun p hp => ?_
 refine koA inj_spec_fgView (o_spec_fgView b s p.1 hb h20) fun v hv => ?_
 have v1 := hv.s; have v2 := hv.o; have v3 := hv.e
 have hvn := hv.n
 refine koA inj_sc_pick (o_sc_pick _ _ _ hp.2.2 (by unfold Far; omega)) fun q hq => ?_
 have same : ∀ (side turn : Int) (c2 : Dl1Cur) (m : Int), m ≤ n + 40000 → Cu c2 m → ∃ w, (AV.tup [AV.agg (cBoard b), AV.agg [I side, I turn, I v.Weather, AV.own (Id.r 0 0) none 0 (List.length v.Seen) (List.length v.Seen), AV.own (Id.r 0 1) none 0 (List.length v.Own) (List.length v.Own), AV.own (Id.r 0 2) none 0 (List.length v.Enemies) (List.length v.Enemies)]], [(Id.l 0, bl (cl1Cur c2)), (Id.r 0 0, some (rowB true false 1 cI v.Seen)), (Id.r 0 1, some (rowB true false 4 cUnit v.Own)), (Id.r 0 2, some (rowB true false 4 cUnit v.Enemies))]) = en_sc_view w ∧ ViewQ (n + 50000) w := by
  intro side turn c2 m hm hc2
  exact ⟨((b, ⟨side, turn, v.Weather, v.Seen, v.Own, v.Enemies⟩), c2), rfl, hb, ⟨hvn.s, hvn.o, hvn.e⟩, hc2.to⟩
 refine OK.ite (fun _ => ?_) (fun _ => OK.ite (fun _ => ?_) (fun _ => OK.ite (fun _ => ?_) (fun _ => OK.ite (fun _ => ?_) (fun _ => OK.ite (fun _ => ?_) (fun _ => OK.ite (fun _ => ?_) (fun _ => ?_))))))
 ·refine OK.cast (slc_inj ok_cI) (a := [IntKind.wrap .i64 (1 - v.Side), 2, -1]) rfl ?_
  refine koA inj_sc_among (o_sc_among _ _ _ hq.2.2 (by unfold Far; omega) (by simp)) fun w hw => ?_
  exact OK.some (same _ _ _ _ (by omega) hw.2)
 ·refine OK.cast (slc_inj ok_cI) (a := [0, -1, 100]) rfl ?_
  refine koA inj_sc_among (o_sc_among _ _ _ hq.2.2 (by unfold Far; omega) (by simp)) fun w hw => ?_
  rw [apR_eq rt_cI rfl (xs := [w.1]) (Src.row (n := 1) ok_cI rfl rfl) rfl rfl (by simp; omega) (by simp; omega) rfl]
  exact OK.some ⟨((b, ⟨v.Side, v.Turn, v.Weather, v.Seen ++ [w.1], v.Own, v.Enemies⟩), w.2), rfl, hb, ⟨by simp; omega, hvn.o, hvn.e⟩, hw.2.to⟩
 ·refine OK.ite (fun h => ?_) (fun _ => OK.some (same _ _ _ _ (by omega) hq.2.2))
  have h0 : 0 < v.Enemies.length := by simpa using h
  rw [oxA_at (i := 0) (j := 0) rt_cUnit rfl h0]
  refine OK.eq (ld_at (E := tUnit) (j := 0) rfl rfl ok_cUnit (by intro h; cases h) rfl rfl (List.getElem?_eq_getElem h0) _) ?_
  rw [apR_eq rt_cUnit rfl (xs := [v.Enemies[0]]) (Src.row (n := 1) ok_cUnit rfl rfl) rfl rfl (by simp; omega) (by simp; omega) rfl]
  exact OK.some ⟨((b, ⟨v.Side, v.Turn, v.Weather, v.Seen, v.Own, v.Enemies ++ [v.Enemies[0]]⟩), q.2), rfl, hb, ⟨hvn.s, hvn.o, by simp; omega⟩, hq.2.2.to⟩
 ·refine OK.ite (fun h => ?_) (fun _ => OK.some (same _ _ _ _ (by omega) hq.2.2))
  have h0 : 0 < v.Own.length := by simpa using h
  refine OK.cast (slc_inj ok_cI) (a := [0, 5, -1]) rfl ?_
  refine koA inj_sc_among (o_sc_among _ _ _ hq.2.2 (by unfold Far; omega) (by simp)) fun w hw => ?_
  rw [oxA_at (i := 0) (j := 0) rt_cUnit rfl h0, stF (j := 0) (f := 3) ok_cUnit rfl rfl (List.getElem?_eq_getElem h0) rfl (by omega) rfl (y' := { v.Own[0] with Steps := w.1 }) rfl]
  have hl : (v.Own.set 0 { v.Own[0] with Steps := w.1 }).length = v.Own.length := by simp
  refine OK.some ⟨((b, ⟨v.Side, v.Turn, v.Weather, v.Seen, v.Own.set 0 { v.Own[0] with Steps := w.1 }, v.Enemies⟩), w.2), ?_, hb, ⟨hvn.s, by dsimp only; rw [List.length_set]; exact hvn.o, hvn.e⟩, hw.2.to⟩
  unfold en_sc_view
  rw [hl]
 ·refine OK.cast (slc_inj ok_cI) (a := [-1, 31]) rfl ?_
  refine koA inj_sc_among (o_sc_among _ _ _ hq.2.2 (by unfold Far; omega) (by simp)) fun w hw => ?_
  exact OK.some (same _ _ _ _ (by omega) hw.2)
 ·refine koA inj_sc_anyBoard (o_sc_anyBoard _ _ hq.2.2 (by unfold Far; omega)) fun w hw => ?_
  exact OK.some ⟨((w.1, v), w.2), rfl, hw.1, hvn, hw.2.to⟩
 ·exact OK.some (same _ _ _ _ (by omega) hq.2.2)
theorem o_spec_DrawMayHide (x : KSl) (h : Arg x) : ∃ v, A_spec_DrawMayHide x = some (en_spec_DrawMayHide v) ∧ (BoardN v.1 ∧ ViewN v.2.1) := by
 refine okA (e_spec_DrawMayHide _) ?_
 refine koA inj_sc_view (o_sc_view _ 0 h.cu (by unfold Far; omega)) fun r hr => ?_
 obtain ⟨⟨b, v⟩, c1⟩ := r
 obtain ⟨hb, hv, hc1⟩ := hr
 dsimp only at hb hv hc1 ⊢
 refine koA inj_sc_kindOf (o_sc_kindOf _ _ _ hc1 (by unfold Far; omega)) fun p hp => ?_
 exact OK.cast inj_bvi (a := (b, v, p.1)) (gvTup (gvVs_cons rfl (gvVs_cons (gvView v rfl rfl rfl) (gvVs_cons rfl rfl)))) (OK.some ⟨(b, v, p.1), rfl, hb, hv⟩)
theorem o_spec_DrawHiddenThreat (x : KSl) (h : Arg x) : ∃ v, A_spec_DrawHiddenThreat x = some (en_spec_DrawHiddenThreat v) ∧ (BoardN v.1 ∧ ViewN v.2.1) := by
 refine okA (e_spec_DrawHiddenThreat _) ?_
 refine koA inj_sc_view (o_sc_view _ 0 h.cu (by unfold Far; omega)) fun r hr => ?_
 obtain ⟨⟨b, v⟩, c1⟩ := r
 obtain ⟨hb, hv, hc1⟩ := hr
 dsimp only at hb hv hc1 ⊢
 refine koA inj_sc_place (o_sc_place _ _ _ hc1 (by unfold Far; omega)) fun p hp => ?_
 exact OK.cast inj_bvi (a := (b, v, p.1)) (gvTup (gvVs_cons rfl (gvVs_cons (gvView v rfl rfl rfl) (gvVs_cons rfl rfl)))) (OK.some ⟨(b, v, p.1), rfl, hb, hv⟩)
theorem o_spec_DrawCountHidings (x : KSl) (h : Arg x) : ∃ v, A_spec_DrawCountHidings x = some (en_spec_DrawCountHidings v) ∧ (BoardN v.1 ∧ ViewN v.2.1) := by
 refine okA (e_spec_DrawCountHidings _) ?_
 refine koA inj_sc_view (o_sc_view _ 0 h.cu (by unfold Far; omega)) fun r hr => ?_
 obtain ⟨⟨b, v⟩, c1⟩ := r
 obtain ⟨hb, hv, hc1⟩ := hr
 dsimp only at hb hv hc1 ⊢
 refine koA inj_sc_kindOf (o_sc_kindOf _ _ _ hc1 (by unfold Far; omega)) fun p hp => ?_
 refine koA inj_sc_pick (o_sc_pick _ _ _ hp (by unfold Far; omega)) fun q hq => ?_
 refine koA inj_sc_pick (o_sc_pick _ _ _ hq.2.2 (by unfold Far; omega)) fun w hw => ?_
 exact OK.cast inj_bvii (a := (b, v, p.1, IntKind.wrap .i64 (q.1 - IntKind.wrap .i64 (Int.tdiv w.1 19)))) (gvTup (gvVs_cons rfl (gvVs_cons (gvView v rfl rfl rfl) (gvVs_cons rfl (gvVs_cons rfl rfl))))) (OK.some ⟨(b, v, p.1, IntKind.wrap .i64 (q.1 - IntKind.wrap .i64 (Int.tdiv w.1 19))), rfl, hb, hv⟩)
theorem o_spec_DrawNewsOf (x : KSl) (h : Arg x) : ∃ v, A_spec_DrawNewsOf x = some (en_spec_DrawNewsOf v) ∧ (BoardN v.1 ∧ ViewN v.2.1 ∧ ViewN v.2.2) := by
 refine okA (e_spec_DrawNewsOf _) ?_
 refine koA inj_sc_close (o_sc_close _ 0 h.cu (by unfold Far; omega)) fun r hr => ?_
 obtain ⟨⟨b, s⟩, c1⟩ := r
 obtain ⟨hb, h1, h20, hc1⟩ := hr
 dsimp only at hb h1 h20 hc1 ⊢
 refine koA inj_sc_pick (o_sc_pick _ _ _ hc1 (by unfold Far; omega)) fun p hp => ?_
 refine koA inj_sc_moved (o_sc_moved _ _ _ _ hb h20 _ hp.2.2 (by unfold Far; omega)) fun m hm => ?_
 refine koA inj_sc_moved (o_sc_moved _ _ _ _ hb hm.1 _ hm.2 (by unfold Far; omega)) fun t ht => ?_
 refine koA inj_spec_fgView (o_spec_fgView b t.1 p.1 hb ht.1) fun w hw => ?_
 refine koA inj_sc_one (o_sc_one _ _ _ ht.2 (by unfold Far; omega)) fun o ho => ?_
 refine OK.ite (fun _ => ?_) (fun _ => ?_)
 ·refine koA inj_spec_fgView (o_spec_fgView b s p.1 hb h20) fun v hv => ?_
  exact OK.cast inj_bvv (a := (b, v, { w with Side := IntKind.wrap .i64 (1 - p.1) })) (gvTup (gvVs_cons rfl (gvVs_cons (gvView v rfl rfl rfl) (gvVs_cons (gvView { w with Side := IntKind.wrap .i64 (1 - p.1) } rfl rfl rfl) rfl)))) (OK.some ⟨(b, v, { w with Side := IntKind.wrap .i64 (1 - p.1) }), rfl, hb, hv.n, ⟨hw.n.s, hw.n.o, hw.n.e⟩⟩)
 ·refine koA inj_spec_fgView (o_spec_fgView b s p.1 hb h20) fun v hv => ?_
  exact OK.cast inj_bvv (a := (b, v, w)) (gvTup (gvVs_cons rfl (gvVs_cons (gvView v rfl rfl rfl) (gvVs_cons (gvView w rfl rfl rfl) rfl)))) (OK.some ⟨(b, v, w), rfl, hb, hv.n, hw.n⟩)
theorem step_one (st : Nat) (h : 1 ≤ st) (c : Int) (h0 : 0 ≤ c) (h1 : c ≤ 100000) : stepW 1 st [1, c] = [1, c + 1] := by
 obtain ⟨s, rfl⟩ : ∃ s, st = s + 1 := ⟨st - 1, by omega⟩
 have e1 : IntKind.wrap .i64 (0 + 1) = 1 := wrap_id (by omega) (by omega)
 have e2 : IntKind.wrap .i64 (1 + c) = c + 1 := by rw [wrap_id (by omega) (by omega)]; omega
 unfold stepW
 simp only [rowW]
 have a1 : hereW 1 (s + 1) 0 1 (s + 1 + 1) 0 (List.replicate (1 + 1) 0) = [1, 1] := by
  simp only [hereW]
  rw [if_pos (by omega), if_pos (by omega)]
  simp only [List.replicate, List.set_cons_zero, List.getD_cons_zero, Nat.zero_add, List.set_cons_succ, List.getD_cons_succ, e1]
  cases s with
  | zero => rfl
  | succ s => unfold hereW; rw [if_neg (by omega)]
 have a2 : hereW 1 (s + 1) (0 + 1) c (s + 1 + 1) 0 [1, 1] = [1, c + 1] := by
  simp only [hereW]
  rw [if_pos (by omega), if_neg (by omega)]
  simp only [List.set_cons_zero, List.getD_cons_zero, Nat.zero_add, Nat.add_zero, List.set_cons_succ, List.getD_cons_succ, e2]
 rw [a1, a2]
theorem iter_one (st : Nat) (h : 1 ≤ st) : ∀ (m : Nat) (c : Int), 0 ≤ c → c + m ≤ 100000 → iterW 1 st m [1, c] = [1, c + m]
 | 0, c, _, _ => by simp [iterW]
 | m + 1, c, h0, h1 => by
  unfold iterW
  rw [step_one st h c h0 (by omega), iter_one st h m (c + 1) (by omega) (by omega)]
  congr 2
  omega
theorem cnt_one {b : DBoard} {v : DView} {kind : Int} (h : askH b v kind = true) : cntHR b v kind 1 = (((hideL b v kind).length : Int), true) := by
 have h2 := h
 unfold askH at h2
 rw [Bool.and_eq_true] at h2
 have g := (askV_b h2.1).1
 have hst := stack_b g
 have hln : (hideL b v kind).length ≤ b.Map.Terrain.length := colI_len _ _ _
 have har := (area_b g).2
 unfold cntHR
 rw [h, show inB 0 6 1 = true from rfl, if_pos (by rfl)]
 have := iter_one b.Rules.Stack.toNat (by omega) (hideL b v kind).length 0 (by omega) (by omega)
 show ((iterW 1 b.Rules.Stack.toNat (hideL b v kind).length [1, 0]).getD 1 0, true) = _
 rw [this]
 simp
theorem only_len (l o : List Int) : (onlyL l o).length ≤ l.length := List.length_filter_le _ _
theorem new_len (l o : List DUnit) : (newL l o).length ≤ l.length := colI_len _ _ _
theorem news_len (b : DBoard) (v w : DView) (hv : ViewN v) (hw : ViewN w) : (newsR b v w).1.length ≤ 3000 ∧ (newsR b v w).2.1.length ≤ 3000 ∧ (newsR b v w).2.2.1.length ≤ 3000 ∧ (newsR b v w).2.2.2.1.length ≤ 3000 := by
 have v1 := hv.s; have v2 := hv.e; have w1 := hw.s; have w2 := hw.e
 unfold newsR
 split
 ·have a := only_len w.Seen v.Seen
  have b := only_len v.Seen w.Seen
  have c := new_len w.Enemies v.Enemies
  have d := new_len v.Enemies w.Enemies
  refine ⟨?_, ?_, ?_, ?_⟩ <;> dsimp only <;> omega
 ·simp
theorem law_laws_FnHidden (code more : KSl) (hc : Arg code) (hm : Arg more) : A_laws_FnHidden code more = some (B true, []) := by
 have key : OK (P_laws_FnHidden code more) fun r => r = (B true, []) := by
  unfold P_laws_FnHidden
  refine koA inj_laws_big (o_laws_big _ _) fun v0 _ => ?_
  refine OK.ite (fun _ => OK.some rfl) (fun _ => ?_)
  refine koA inj_spec_DrawMayHide (o_spec_DrawMayHide _ hc) fun r hr => ?_
  obtain ⟨b, v, kind⟩ := r
  obtain ⟨hn, hv⟩ := hr
  dsimp only at hn hv ⊢
  have hmt := hn.m.t
  have hml : (mayR b v kind).1.length < 1000000000000 := by
   unfold mayR
   split
   ·have : (hideL b v kind).length ≤ b.Map.Terrain.length := colI_len _ _ _
    dsimp only
    omega
   ·simp
  have hul : (unsR b v).1.length < 1000000000000 := by
   unfold unsR
   split
   ·have : (unseenL b v).length ≤ b.Map.Terrain.length := colI_len _ _ _
    dsimp only
    omega
   ·simp
  rw [cast_of inj_impl_MayHide (c_impl_MayHide _ _ _ hn hv), cast_of inj_spec_MayHide (c_spec_MayHide _ _ _ hn hv), if_neg (by simp), cast_of inj_laws_sameInts (c_laws_sameInts _ hml), if_neg (by simp)]
  refine OK.ite (fun hok => ?a) (fun _ => ?b)
  case' a =>
   have hk : askH b v kind = true := by
    unfold mayR at hok
    cases hk : askH b v kind with
    | true => rfl
    | false => rw [hk] at hok; cases hok
   have e : mayR b v kind = (hideL b v kind, true) := by unfold mayR; rw [if_pos hk]
   rw [cast_of inj_impl_CountHidings (c_impl_CountHidings _ _ _ _ hn hv), cnt_one hk, e, if_neg (by simp), if_neg (by simp)]
  all_goals
   refine koA inj_spec_DrawCountHidings (o_spec_DrawCountHidings _ hm) fun r hr => ?_
   obtain ⟨b1, v1, k1, n1⟩ := r
   obtain ⟨hn1, hv1⟩ := hr
   dsimp only at hn1 hv1 ⊢
   rw [cast_of inj_impl_CountHidings (c_impl_CountHidings _ _ _ _ hn1 hv1), cast_of inj_spec_CountHidings (c_spec_CountHidings _ _ _ _ hn1 hv1)]
   refine koA inj_spec_DrawHiddenThreat (o_spec_DrawHiddenThreat _ hm) fun r hr => ?_
   obtain ⟨b2, v2, i2⟩ := r
   obtain ⟨hn2, hv2⟩ := hr
   dsimp only at hn2 hv2 ⊢
   rw [cast_of inj_impl_HiddenThreat (c_impl_HiddenThreat _ _ _ hn2 hv2), cast_of inj_spec_HiddenThreat (c_spec_HiddenThreat _ _ _ hn2 hv2)]
   refine koA inj_spec_DrawNewsOf (o_spec_DrawNewsOf _ hm) fun r hr => ?_
   obtain ⟨b3, v3, w3⟩ := r
   obtain ⟨hn3, hv3, hw3⟩ := hr
   dsimp only at hn3 hv3 hw3 ⊢
   have hl := news_len b3 v3 w3 hv3 hw3
   rw [cast_of inj_impl_NewsOf (c_impl_NewsOf _ _ _ hn3 hv3 hw3), cast_of inj_spec_NewsOf (c_spec_NewsOf _ _ _ hn3 hv3 hw3), cast_of inj_impl_UnseenHexes (c_impl_UnseenHexes _ _ hn hv), cast_of inj_spec_UnseenHexes (c_spec_UnseenHexes _ _ hn hv), if_pos (by simp), if_pos (by simp), if_pos (by simp), if_pos (by simp), if_pos (by simp), cast_of inj_laws_sameInts (c_laws_sameInts _ (by omega)), if_pos rfl, cast_of inj_laws_sameInts (c_laws_sameInts _ (by omega)), if_pos rfl, cast_of inj_laws_sameInts (c_laws_sameInts _ (by omega)), if_pos rfl, cast_of inj_laws_sameInts (c_laws_sameInts _ (by omega)), if_pos rfl, if_pos (by simp), cast_of inj_laws_sameInts (c_laws_sameInts _ hul)]
   exact ⟨_, rfl, rfl⟩
 obtain ⟨r, h1, rfl⟩ := key
 exact e_laws_FnHidden _ _ _ h1
end Go.Ev
