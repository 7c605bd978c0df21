/-
 C2: one of the texts behind a proof of laws.FnValues: what the functions answer
 Its conditions: none of its own.
-/
import Derived.Test.YtbeejcnlekdbnaaGreatDoorC1
set_option maxRecDepth 100000
set_option linter.unusedVariables false
set_option linter.unusedSectionVars false
set_option linter.unusedSimpArgs false
set_option linter.unnecessarySimpa false
namespace Go.Ev
open Go Go.Proofs
variable [Inhabited Known]
theorem l_impl_spread_L8 {m : DMap} {op : List Bool} {src : List Int} (ok : SpreadOk m op src) : L_impl_spread_L8 (List.replicate op.length (-1)) [] m op 0 op.length op.length src src.length 0 = some (en_impl_spread (spreadL m op src)) := by
 have hn := ok.l
 have hq := ok.q
 have ht := totB_le op src
 have fin := l_impl_spread_L15 ok (totB (seedsL op src)) 0 (seedsL op src) (by omega) (by omega) (seeds_ok (op := op) (n := op.length) (src := src) rfl src _ (fun _ h => h) (BI.init op.length src)).1
 refine fold_loop (fun j (st : St2) => L_impl_spread_L8 st.1 st.2 m op 0 op.length op.length src src.length j) src (fun _ w k => seedB op w k) (fun j w => w.1.length = op.length ∧ w.2.length ≤ j)
  (fun w => L_impl_spread_L15 w.1 w.2 m op 0 op.length op.length 0) ?_ ?_ (List.replicate op.length (-1), []) ⟨by simp, by simp⟩ _ ?_
 ·intro w hw r hr
  apply e_impl_spread_L8
  rw [if_neg (by simp)]
  exact hr
 ·intro j k w hk hj hw
  obtain ⟨k0, k1⟩ := ok.s k (mem_of_get hk)
  obtain ⟨o, ho⟩ := getI_ex (l := op) k0 k1
  refine ⟨?_, ?_⟩
  ·rw [seed_get ho]
   split
   ·simp; omega
   ·exact ⟨hw.1, by omega⟩
  ·intro r hr
   apply e_impl_spread_L8
   rw [seed_get ho] at hr
   rw [if_pos (by simpa using hj), ixA_at sl_cI rfl hk, ixA_get sl_cB _ _ ho, wrap_id (n := (j : Int) + 1) (by omega) (by omega)]
   cases o with
   | false => rw [if_neg (by simp)] at hr ⊢; exact hr
   | true =>
    rw [if_pos rfl] at hr ⊢
    obtain ⟨q, e, hx, hq2⟩ := getI_some (far_get (st := w) hw.1 k0 k1)
    rw [oxA_at rt_cI (j := q) e (by omega), stF (f := 0) (off := q * 1) ok_cI rfl rfl hx rfl (by omega) rfl (y' := 0) rfl, apR_eq rt_cI (l := w.2) (xs := [k]) rfl (Src.row (n := 1) ok_cI rfl rfl) rfl rfl (by simp; omega) (by simp; omega) rfl]
    rw [e, Int.toNat_natCast] at hr
    rw [e]
    exact hr
 ·rw [foldN_const]
  exact fin
theorem l_impl_spread_L3 {m : DMap} {op : List Bool} {src : List Int} (ok : SpreadOk m op src) : ∀ (k i : Nat), i + k = op.length → L_impl_spread_L3 (List.replicate i (-1) ++ List.replicate k 0) [] m op src 0 op.length op.length op.length i = some (en_impl_spread (spreadL m op src)) := by
 have hn := ok.l
 intro k
 induction k with
 | zero =>
  intro i hi
  apply e_impl_spread_L3
  rw [if_neg (by simp; omega), List.replicate_zero, List.append_nil, show i = op.length by omega]
  exact l_impl_spread_L8 ok
 | succ k ih =>
  intro i hi
  apply e_impl_spread_L3
  rw [if_pos (by simp; omega), oxA_at rt_cI rfl (by omega), stF (f := 0) (off := i * 1) ok_cI rfl rfl (fill_get (-1) 0 i k) rfl (by omega) rfl (y' := -1) rfl, fill_set, wrap_id (n := (i : Int) + 1) (by omega) (by omega)]
  exact ih (i + 1) (by omega)
theorem c_impl_spread (m : DMap) (op : List Bool) (src : List Int) (ok : SpreadOk m op src) : A_impl_spread m op src = some (en_impl_spread (spreadL m op src)) := by
 apply e_impl_spread
 have hn := ok.l
 rw [mkA_z rt_cI (z := 0) (by kernel_rfl) rfl (by omega) (by omega) (by omega)]
 have := l_impl_spread_L3 ok op.length 0 (by omega)
 simpa using this
theorem l_spec_jFar_L16 {m : DMap} {op : List Bool} {src : List Int} (ok : SpreadOk m op src) : ∀ (f a : Nat) (st : St2), totB st ≤ a + f → a + f ≤ 500 → BI op.length src a st →
  L_spec_jFar_L16 st.1 st.2 m op 0 op.length op.length a = some (en_spec_jFar (runB m op f a st).1) := by
 intro f
 induction f with
 | zero =>
  intro a st ht hf hb
  apply e_spec_jFar_L16
  have : st.2.length ≤ totB st := by unfold totB; omega
  rw [if_neg (by simp; omega), ← hb.len, give_at ok_cI rfl]
  rfl
 | succ f ih =>
  intro a st ht hf hb
  apply e_spec_jFar_L16
  unfold runB
  by_cases ha : a < st.2.length
  ·obtain ⟨h0, h1, h2, h3, h4⟩ := hb.start ha
   have hl := ok.l
   rw [if_pos (by simpa using ha), if_pos ha]
   have hst := hb.step (m := m) rfl ha
   have nx := ih (a + 1) (stepB m op a st) (by omega) (by omega) hst.1
   refine fold_loop (fun j (w : St2) => L_spec_jFar_L19 w.1 w.2 m op 0 op.length op.length a j) dl (fun _ w d => if 0 ≤ nextL m (quL st a) d then visitB op (farL st (quL st a)) w (nextL m (quL st a) d) else w)
    (fun (_ : Nat) (w : St2) => BJ op.length src ((a : Int) + 1) (farL st (quL st a)) (quL st a) (totB st) a w) (fun w => L_spec_jFar_L16 w.1 w.2 m op 0 op.length op.length ((a + 1 : Nat) : Int)) ?_ ?_ st h4 _ ?_
   ·intro w hw r hr
    apply e_spec_jFar_L19
    rw [if_neg (by simp [dl]), wrap_id (n := (a : Int) + 1) (by omega) (by omega)]
    exact hr
   ·intro j d w hk hj hw
    obtain ⟨rfl, h6⟩ := dl_get hk
    refine ⟨?_, ?_⟩
    ·split
     ·exact hw.visit rfl h0 h1 h2 (by omega) _
     ·exact hw
    intro r hr
    apply e_spec_jFar_L19
    have hwl : w.2.length ≤ totB w := by unfold totB; omega
    rw [hw.tot] at hwl
    have hq' : w.2[a]? = some (quL st a) := by rw [← hw.at_.2]; unfold quL; rw [List.getD_eq_getElem?_getD, List.getElem?_eq_getElem hw.at_.1]; rfl
    rw [if_pos (by simp; omega), oxA_at rt_cI rfl hw.at_.1]
    refine (ld_at (E := tI) rfl rfl ok_cI (fun _ => rfl) (l := w.2) rfl rfl hq' _).trans ?_
    rw [cast_of inj_spec_mNext (c_spec_mNext _ _ _ ok.b (by unfold sm; omega) (by omega) (by omega)), wrap_id (n := (j : Int) + 1) (by omega) (by omega)]
    by_cases hk0 : 0 ≤ nextL m (quL st a) j
    ·have k1 : nextL m (quL st a) j < op.length := by have := nextL_area ok.w.1 ok.w.2 (quL st a) j; have := ok.n; omega
     rw [if_pos hk0] at hr
     rw [if_pos (by simpa using hk0)]
     generalize nextL m (quL st a) j = k at hr hk0 k1
     obtain ⟨o, ho⟩ := getI_ex (l := op) hk0 k1
     rw [visit_get ho] at hr
     rw [ixA_get sl_cB _ _ ho]
     cases o with
     | false => rw [if_neg (by simp)] at hr ⊢; exact hr
     | true =>
      rw [if_pos rfl] at hr ⊢
      obtain ⟨q, e, hx, hq2⟩ := getI_some (far_get hw.bi.len hk0 k1)
      rw [oxA_at rt_cI (j := q) e (by omega)]
      refine (ld_at (E := tI) rfl rfl ok_cI (fun _ => rfl) (l := w.1) rfl rfl hx _).trans ?_
      by_cases hneg : farL w k < 0
      ·rw [if_pos hneg] at hr
       rw [if_pos (by simpa using hneg), oxA_at rt_cI rfl hw.at_.1]
       refine (ld_at (E := tI) rfl rfl ok_cI (fun _ => rfl) (l := w.2) rfl rfl hq' _).trans ?_
       obtain ⟨p, ep, hxp, _⟩ := getI_some (far_get hw.bi.len h0 h1)
       rw [oxA_at rt_cI (j := p) ep (by omega)]
       refine (ld_at (E := tI) rfl rfl ok_cI (fun _ => rfl) (l := w.1) rfl rfl hxp _).trans ?_
       rw [hw.far, wrap_id (n := farL st (quL st a) + 1) (by omega) (by omega), oxA_at rt_cI (j := q) e (by omega), stF (f := 0) (off := q * 1) ok_cI rfl rfl hx rfl (by omega) rfl (y' := farL st (quL st a) + 1) rfl,
        apR_eq rt_cI (l := w.2) (xs := [k]) rfl (Src.row (n := 1) ok_cI rfl rfl) rfl rfl (by simp; omega) (by simp; omega) rfl]
       rw [e, Int.toNat_natCast] at hr
       rw [e]
       exact hr
      ·rw [if_neg hneg] at hr
       rw [if_neg (by simpa using hneg)]
       exact hr
    ·rw [if_neg hk0] at hr
     rw [if_neg (by simpa using hk0)]
     exact hr
   ·rw [foldN_const, fold_nb]
    exact nx
  ·rw [if_neg (by simpa using ha), if_neg ha, ← hb.len, give_at ok_cI rfl]
   rfl
theorem l_spec_jFar_L9 {m : DMap} {op : List Bool} {src : List Int} (ok : SpreadOk m op src) : L_spec_jFar_L9 (List.replicate op.length (-1)) [] m op 0 op.length op.length src src.length 0 = some (en_spec_jFar (spreadL m op src)) := by
 have hn := ok.l
 have hq := ok.q
 have ht := totB_le op src
 have fin := l_spec_jFar_L16 ok (totB (seedsL op src)) 0 (seedsL op src) (by omega) (by omega) (seeds_ok (op := op) (n := op.length) (src := src) rfl src _ (fun _ h => h) (BI.init op.length src)).1
 refine fold_loop (fun j (st : St2) => L_spec_jFar_L9 st.1 st.2 m op 0 op.length op.length src src.length j) src (fun _ w k => seedB op w k) (fun j w => w.1.length = op.length ∧ w.2.length ≤ j)
  (fun w => L_spec_jFar_L16 w.1 w.2 m op 0 op.length op.length 0) ?_ ?_ (List.replicate op.length (-1), []) ⟨by simp, by simp⟩ _ ?_
 ·intro w hw r hr
  apply e_spec_jFar_L9
  rw [if_neg (by simp)]
  exact hr
 ·intro j k w hk hj hw
  obtain ⟨k0, k1⟩ := ok.s k (mem_of_get hk)
  obtain ⟨o, ho⟩ := getI_ex (l := op) k0 k1
  refine ⟨?_, ?_⟩
  ·rw [seed_get ho]
   split
   ·simp; omega
   ·exact ⟨hw.1, by omega⟩
  ·intro r hr
   apply e_spec_jFar_L9
   rw [seed_get ho] at hr
   rw [if_pos (by simpa using hj), ixA_at sl_cI rfl hk, ixA_get sl_cB _ _ ho, wrap_id (n := (j : Int) + 1) (by omega) (by omega)]
   cases o with
   | false => rw [if_neg (by simp)] at hr ⊢; exact hr
   | true =>
    rw [if_pos rfl] at hr ⊢
    obtain ⟨q, e, hx, hq2⟩ := getI_some (far_get (st := w) hw.1 k0 k1)
    rw [oxA_at rt_cI (j := q) e (by omega), stF (f := 0) (off := q * 1) ok_cI rfl rfl hx rfl (by omega) rfl (y' := 0) rfl, apR_eq rt_cI (l := w.2) (xs := [k]) rfl (Src.row (n := 1) ok_cI rfl rfl) rfl rfl (by simp; omega) (by simp; omega) rfl]
    rw [e, Int.toNat_natCast] at hr
    rw [e]
    exact hr
 ·rw [foldN_const]
  exact fin
theorem l_spec_jFar_L3 {m : DMap} {op : List Bool} {src : List Int} (ok : SpreadOk m op src) : ∀ (k i : Nat), i + k = op.length → L_spec_jFar_L3 (List.replicate i (-1) ++ List.replicate k 0) m op src 0 op.length op.length op.length i = some (en_spec_jFar (spreadL m op src)) := by
 have hn := ok.l
 intro k
 induction k with
 | zero =>
  intro i hi
  apply e_spec_jFar_L3
  rw [if_neg (by simp; omega), List.replicate_zero, List.append_nil, show i = op.length by omega]
  exact l_spec_jFar_L9 ok
 | succ k ih =>
  intro i hi
  apply e_spec_jFar_L3
  rw [if_pos (by simp; omega), oxA_at rt_cI rfl (by omega), stF (f := 0) (off := i * 1) ok_cI rfl rfl (fill_get (-1) 0 i k) rfl (by omega) rfl (y' := -1) rfl, fill_set, wrap_id (n := (i : Int) + 1) (by omega) (by omega)]
  exact ih (i + 1) (by omega)
theorem c_spec_jFar (m : DMap) (op : List Bool) (src : List Int) (ok : SpreadOk m op src) : A_spec_jFar m op src = some (en_spec_jFar (spreadL m op src)) := by
 apply e_spec_jFar
 have hn := ok.l
 rw [mkA_z rt_cI (z := 0) (by kernel_rfl) rfl (by omega) (by omega) (by omega)]
 have := l_spec_jFar_L3 ok op.length 0 (by omega)
 simpa using this
theorem c_impl_blockedFor (b : DBoard) (s : DState) (side i : Int) (g : StateG b s) (hs : side = 0 ∨ side = 1) (h0 : 0 ≤ i) (h1 : i < b.Map.Width * b.Map.Height) : A_impl_blockedFor b s side i = some (en_impl_blockedFor (blockedL b s.Units side i)) := by
 apply e_impl_blockedFor
 unfold blockedL
 have hl := g.len
 rw [cast_of inj_impl_ownerOf (c_impl_ownerOf _ _ (by omega)), wrap_id (n := 1 - side) (by omega) (by omega), cast_of inj_impl_inZone (c_impl_inZone _ _ _ _ g h0 h1)]
 by_cases ho : ownerL s.Units i = 1 - side
 ·rw [if_pos (by simpa using ho)]; simp [ho, en_impl_blockedFor]
 ·rw [if_neg (by simpa using ho)]
  by_cases h2 : ownerL s.Units i = side
  ·rw [if_neg (by simp [h2])]; simp [h2, en_impl_blockedFor]; omega
  ·have e1 : (ownerL s.Units i == 1 - side) = false := by simpa using ho
   have e2 : (ownerL s.Units i != side) = true := by simpa using h2
   rw [if_pos e2, e1, e2]; simp [en_impl_blockedFor]
theorem c_spec_jBlocked (b : DBoard) (s : DState) (side i : Int) (g : StateG b s) (hs : side = 0 ∨ side = 1) (h0 : 0 ≤ i) (h1 : i < b.Map.Width * b.Map.Height) : A_spec_jBlocked b s side i = some (en_spec_jBlocked (blockedL b s.Units side i)) := by
 apply e_spec_jBlocked
 unfold blockedL
 have hl := g.len
 have hc := owner_cases g i
 rw [cast_of inj_spec_sOwner (c_spec_sOwner _ _ (by omega)), wrap_id (n := 1 - side) (by omega) (by omega), cast_of inj_spec_zIn (c_spec_zIn _ _ _ _ g h0 h1)]
 by_cases ho : ownerL s.Units i = 1 - side
 ·rw [if_pos (by simpa using ho)]; simp [ho, en_spec_jBlocked]
 ·rw [if_neg (by simpa using ho)]
  by_cases h2 : ownerL s.Units i = side
  ·rw [if_neg (by simp; omega)]; simp [h2, en_spec_jBlocked]; omega
  ·have e1 : (ownerL s.Units i == 1 - side) = false := by simpa using ho
   have e2 : (ownerL s.Units i != side) = true := by simpa using h2
   rw [if_pos (by simp; omega), e1, e2]; simp [en_spec_jBlocked]
theorem area_b {b : DBoard} (g : BoardG b) : (b.Map.Terrain.length : Int) = b.Map.Width * b.Map.Height ∧ b.Map.Terrain.length ≤ 100 := by
 have := Int.mul_le_mul g.w1 g.h1 (by have := g.h0; omega) (by omega)
 have := g.area
 exact ⟨g.area, by omega⟩
theorem range_snoc {α : Type} (f : Nat → α) (n : Nat) : (List.range (n + 1)).map f = (List.range n).map f ++ [f n] := by rw [List.range_succ, List.map_append]; rfl
theorem gvc_at {α γ : Type} {σ : Store} {c : α → List AV} {e : Nat} (h : COk c e) {id : Id} {fr : Bool} {l : List α} (hb : σ.get? id = some (rowB fr false e c l)) (k : List α → Option γ) : cast (fun a => slc c a) (giveUpV σ (.own id none 0 l.length l.length)) k = k l := cast_of (slc_inj h) (giveV_at h hb) k
theorem c_impl_openFor (b : DBoard) (s : DState) (side kind : Int) (g : StateG b s) (hs : side = 0 ∨ side = 1) (k0 : 0 ≤ kind) (k1 : kind < b.Rules.Kinds.length) : A_impl_openFor b s side kind = some (en_impl_openFor (openL b s.Units side kind)) := by
 apply e_impl_openFor
 have ha := area_b g.bg
 refine pre_loop (fun i (acc : List Bool) => L_impl_openFor_L3 acc b s side kind b.Map.Terrain.length i) (fun pre => (List.range pre.length).map fun (i : Nat) => openAt b s.Units side kind i) b.Map.Terrain (fun _ _ => some (en_impl_openFor (openL b s.Units side kind))) ?_ (fun pre x post h ih => ?_) _ rfl
 ·intro r hr
  apply e_impl_openFor_L3
  rw [if_neg (by simp)]
  exact hr
 ·intro r hr
  apply e_impl_openFor_L3
  have hlt := mid_lt h
  have ih := ih r hr
  rw [List.length_append, List.length_cons, List.length_nil, range_snoc] at ih
  obtain ⟨hc, hc0, _⟩ := g.bg.cost_ex k0 k1 (i := pre.length) (by omega) (by omega)
  rw [if_pos (by simpa using hlt), cast_of inj_impl_enterCost (c_impl_enterCost _ _ _ hc), wrap_id (n := (pre.length : Int) + 1) (by omega) (by omega), cast_of inj_impl_blockedFor (c_impl_blockedFor _ _ _ _ g hs (by omega) (by omega))]
  by_cases hz : costL b kind pre.length = 0
  ·rw [if_neg (by simp [hz]), apR_eq rt_cB (xs := [false]) rfl (Src.row (n := 1) ok_cB rfl rfl) rfl rfl (by simp; omega) (by simp; omega) rfl]
   have e : openAt b s.Units side kind (pre.length : Int) = false := by unfold openAt; simp [hz]
   rw [e] at ih
   exact ih
  ·rw [if_pos (by simpa using hz), apR_eq rt_cB (xs := [!blockedL b s.Units side pre.length]) rfl (Src.row (n := 1) ok_cB rfl rfl) rfl rfl (by simp; omega) (by simp; omega) rfl]
   have e : openAt b s.Units side kind (pre.length : Int) = !blockedL b s.Units side pre.length := by unfold openAt; simp [hz]
   rw [e] at ih
   exact ih
theorem mid_set {α : Type} (A : List α) (x z : α) (k : Nat) : (A ++ List.replicate (k + 1) z).set A.length x = A ++ [x] ++ List.replicate k z := by
 rw [List.set_append_right _ _ (by simp), Nat.sub_self, List.replicate_succ, List.set_cons_zero, List.append_assoc]
 rfl
theorem mid_at {α : Type} (A : List α) (z : α) (k : Nat) : (A ++ List.replicate (k + 1) z)[A.length]? = some z := by
 rw [List.getElem?_append_right (by simp), Nat.sub_self, List.replicate_succ]
 rfl
theorem l_spec_jOpen_L3 (b : DBoard) (s : DState) (side kind : Int) (g : StateG b s) (hs : side = 0 ∨ side = 1) (k0 : 0 ≤ kind) (k1 : kind < b.Rules.Kinds.length) : ∀ (k i : Nat), i + k = b.Map.Terrain.length →
  L_spec_jOpen_L3 ((List.range i).map (fun (i : Nat) => openAt b s.Units side kind i) ++ List.replicate k false) b s side kind 0 b.Map.Terrain.length b.Map.Terrain.length b.Map.Terrain.length i = some (en_spec_jOpen (openL b s.Units side kind)) := by
 have ha := area_b g.bg
 intro k
 induction k with
 | zero =>
  intro i hi
  apply e_spec_jOpen_L3
  have hi : i = b.Map.Terrain.length := by omega
  subst hi
  have hl : b.Map.Terrain.length = ((List.range b.Map.Terrain.length).map (fun (i : Nat) => openAt b s.Units side kind i)).length := by simp
  rw [if_neg (by simp), List.replicate_zero, List.append_nil]
  rw [show (giveUpT _ (AV.own _ none 0 b.Map.Terrain.length b.Map.Terrain.length)) = some (slc cB ((List.range b.Map.Terrain.length).map (fun (i : Nat) => openAt b s.Units side kind i))) from by
   have := gvOwn (σ := [(Id.h 4 0, some { arr := false, fr := true, nest := false, esz := 0, cells := cBoard b }), (Id.h 5 0, some { arr := false, fr := true, nest := false, esz := 0, cells := cState s }), (Id.h 9 0, some (rowB true false 1 cB ((List.range b.Map.Terrain.length).map (fun (i : Nat) => openAt b s.Units side kind i))))]) ok_cB (id := Id.h 9 0) (fr := true) rfl
   rw [← hl] at this
   exact this]
  rw [cast_of (slc_inj ok_cB) rfl]
  rfl
 | succ k ih =>
  intro i hi
  apply e_spec_jOpen_L3
  obtain ⟨hc, hc0, _⟩ := g.bg.cost_ex k0 k1 (i := i) (by omega) (by omega)
  have hl : ((List.range i).map (fun (i : Nat) => openAt b s.Units side kind i)).length = i := by simp
  have hm := mid_at ((List.range i).map (fun (i : Nat) => openAt b s.Units side kind i)) false k
  have hst : ∀ x, ((List.range i).map (fun (i : Nat) => openAt b s.Units side kind i) ++ List.replicate (k + 1) false).set i x = (List.range i).map (fun (i : Nat) => openAt b s.Units side kind i) ++ [x] ++ List.replicate k false := fun x => by
   have := mid_set ((List.range i).map (fun (i : Nat) => openAt b s.Units side kind i)) x false k
   rw [hl] at this
   exact this
  rw [hl] at hm
  have ih := ih (i + 1) (by omega)
  rw [range_snoc] at ih
  rw [if_pos (by simp; omega), cast_of inj_spec_bCost (c_spec_bCost _ _ _ hc), wrap_id (n := (i : Int) + 1) (by omega) (by omega), cast_of inj_spec_jBlocked (c_spec_jBlocked _ _ _ _ g hs (by omega) (by omega))]
  by_cases hz : costL b kind i = 0
  ·rw [if_neg (by simp [hz]), oxA_at rt_cB rfl (by omega), stF (f := 0) (off := i * 1) ok_cB rfl rfl hm rfl (by omega) rfl (y' := false) rfl, hst]
   have e : openAt b s.Units side kind (i : Int) = false := by unfold openAt; simp [hz]
   rw [e] at ih
   exact ih
  ·rw [if_pos (by simp; omega), oxA_at rt_cB rfl (by omega), stF (f := 0) (off := i * 1) ok_cB rfl rfl hm rfl (by omega) rfl (y' := !blockedL b s.Units side i) rfl, hst]
   have e : openAt b s.Units side kind (i : Int) = !blockedL b s.Units side i := by unfold openAt; simp [hz]
   rw [e] at ih
   exact ih
theorem c_spec_jOpen (b : DBoard) (s : DState) (side kind : Int) (g : StateG b s) (hs : side = 0 ∨ side = 1) (k0 : 0 ≤ kind) (k1 : kind < b.Rules.Kinds.length) : A_spec_jOpen b s side kind = some (en_spec_jOpen (openL b s.Units side kind)) := by
 apply e_spec_jOpen
 have ha := area_b g.bg
 rw [cast_of inj_spec_mSize (c_spec_mSize _), ← ha.1, wrap_id (by omega) (by omega), mkA_z rt_cB (z := false) (by kernel_rfl) rfl (by omega) (by omega) (by omega)]
 have := l_spec_jOpen_L3 b s side kind g hs k0 k1 b.Map.Terrain.length 0 (by omega)
 simpa using this
def srcB (b : DBoard) (l : List Int) : Bool := decide ((l.length : Int) ≤ 6) && (risingB l && l.all (inB 0 ((b.Map.Terrain.length : Int) - 1)))
theorem c_impl_areSources_1 (b : DBoard) (k : Int) (hn : BoardN b) : A_impl_areSources_1 b k = some (en_impl_areSources_1 (!inB 0 ((b.Map.Terrain.length : Int) - 1) k, b)) := by
 apply e_impl_areSources_1
 have := hn.m.t
 rw [cast_of inj_impl_sizeOf (c_impl_sizeOf _), cast_of inj_impl_isIndex (c_impl_isIndex _ _ (by omega) (by omega))]
 rfl
theorem c_xf_impl_areSources_1 (b : DBoard) (l : List Int) (hn : BoardN b) (hl : l.length < 1000000000000) : A_xf_impl_areSources_1 b l = some (en_xf_impl_areSources_1 (findI (fun k => !inB 0 ((b.Map.Terrain.length : Int) - 1) k) l, b)) := by
 apply e_xf_impl_areSources_1
 refine idx_loop (fun i => L_xf_impl_areSources_1_L2 b l l.length i) l (fun k => !inB 0 ((b.Map.Terrain.length : Int) - 1) k) (fun i => some (en_xf_impl_areSources_1 (i, b))) ?_ (fun i x hx hi => ?_) _ rfl
 ·intro _ h; apply e_xf_impl_areSources_1_L2
  rw [← h]; simp [en_xf_impl_areSources_1]
 ·intro _ h; apply e_xf_impl_areSources_1_L2
  rw [if_pos (by simpa using hi), ixA_at sl_cI rfl hx, cast_of inj_impl_areSources_1 (c_impl_areSources_1 _ _ hn), wrap_id (by omega) (by omega)]
  exact h
theorem c_impl_areSources (b : DBoard) (l : List Int) (hn : BoardN b) : A_impl_areSources b l = some (en_impl_areSources (srcB b l)) := by
 apply e_impl_areSources
 unfold srcB
 by_cases hq : (l.length : Int) ≤ 6
 ·rw [if_pos (by simpa using hq), cast_of inj_impl_increasing (c_impl_increasing _ (by omega))]
  have hc : A_cf_impl_areSources_1 b l = some (en_cf_impl_areSources_1 (l.any (fun k => !inB 0 ((b.Map.Terrain.length : Int) - 1) k), b)) := by
   apply e_cf_impl_areSources_1
   rw [cast_of inj_xf_impl_areSources_1 (c_xf_impl_areSources_1 _ _ hn (by omega)), findI_any]
   rfl
  rw [cast_of inj_cf_impl_areSources_1 hc]
  cases risingB l <;> simp [en_impl_areSources, List.all_eq_not_any_not, hq]
 ·rw [if_neg (by simpa using hq)]
  simp [en_impl_areSources, hq]
theorem c_spec_jSources (b : DBoard) (l : List Int) (g : BoardG b) : A_spec_jSources b l = some (en_spec_jSources (srcB b l)) := by
 apply e_spec_jSources
 unfold srcB
 have ha := area_b g
 by_cases hq : (l.length : Int) ≤ 6
 ·rw [if_pos (by simpa using hq), cast_of inj_spec_mSize (c_spec_mSize _), ← ha.1, wrap_id (n := (b.Map.Terrain.length : Int)) (by omega) (by omega), wrap_id (by omega) (by omega), cast_of inj_spec_l1Rising (c_spec_l1Rising _ _ _ (by omega))]
  simp [en_spec_jSources, hq, Bool.and_comm]
 ·rw [if_neg (by simpa using hq)]
  simp [en_spec_jSources, hq]
theorem src_ok {b : DBoard} {l : List Int} (g : BoardG b) (h : srcB b l = true) (us : List DUnit) (side kind : Int) : SpreadOk b.Map (openL b us side kind) l := by
 have ha := area_b g
 unfold srcB at h
 simp only [Bool.and_eq_true, decide_eq_true_eq, List.all_eq_true, inB_iff] at h
 have hl : (openL b us side kind).length = b.Map.Terrain.length := by unfold openL; simp
 exact ⟨by rw [hl]; exact ha.1, ⟨g.w0, g.h0⟩, by omega, fun i hi => by have := h.2.2 i hi; omega, by omega, g.s.b⟩
theorem way_get {b : DBoard} {us : List DUnit} {src : List Int} {u : DUnit} (g : BoardG b) (h : srcB b src = true) (h0 : 0 ≤ u.At) (h1 : u.At < b.Map.Width * b.Map.Height) :
  getI (spreadL b.Map (openL b us u.Side u.Kind) src) u.At = some ((getI (spreadL b.Map (openL b us u.Side u.Kind) src) u.At).getD 0) := by
 have ha := area_b g
 have hl := spread_len b.Map (openL b us u.Side u.Kind) src
 have ho : (openL b us u.Side u.Kind).length = b.Map.Terrain.length := by unfold openL; simp
 obtain ⟨x, hx⟩ := getI_ex (l := spreadL b.Map (openL b us u.Side u.Kind) src) h0 (by omega)
 rw [hx]
 rfl
theorem c_impl_wayOf (b : DBoard) (s : DState) (u : DUnit) (src : List Int) (g : StateG b s) (hu : u ∈ s.Units) (hs : srcB b src = true) : A_impl_wayOf b s u src = some (en_impl_wayOf (wayL b s.Units src u)) := by
 apply e_impl_wayOf
 have hk := unit_kind (g.u u hu)
 rw [cast_of inj_impl_openFor (c_impl_openFor _ _ _ _ g (unit_side (g.u u hu)) hk.1 hk.2), gvc_at ok_cB rfl]
 have hw : A_impl_supplyWay b u (openL b s.Units u.Side u.Kind) src = some (en_impl_supplyWay (wayL b s.Units src u)) := by
  apply e_impl_supplyWay
  unfold wayL
  by_cases h0 : u.At < 0
  ·rw [if_pos (by simpa using h0), if_pos h0]; rfl
  ·have hp := unit_place (g.u u hu) (by omega)
   rw [if_neg (by simpa using h0), if_neg h0, cast_of inj_impl_spread (c_impl_spread _ _ _ (src_ok g.bg hs s.Units u.Side u.Kind)), ixA_get sl_cI _ _ (way_get g.bg hs (by omega) hp.1)]
   by_cases h1 : b.Rules.Supply < (getI (spreadL b.Map (openL b s.Units u.Side u.Kind) src) u.At).getD 0
   ·rw [if_pos (by simpa using h1), if_pos h1]; rfl
   ·rw [if_neg (by simpa using h1), if_neg h1]; rfl
 rw [cast_of inj_impl_supplyWay hw]
 rfl
theorem c_spec_jIn (b : DBoard) (s : DState) (k : Int) (src : List Int) (g : StateG b s) {u : DUnit} (hk : getI s.Units k = some u) (hu : u ∈ s.Units) (hs : srcB b src = true) : A_spec_jIn b s k src = some (en_spec_jIn (decide (0 ≤ wayL b s.Units src u))) := by
 apply e_spec_jIn
 unfold wayL
 have hkd := unit_kind (g.u u hu)
 rw [ixA_get sl_cUnit _ _ hk]
 by_cases h0 : u.At < 0
 ·rw [if_pos (by simpa using h0), if_pos h0]; rfl
 ·have hp := unit_place (g.u u hu) (by omega)
  have hj : A_spec_jUnit b s k src = some (en_spec_jUnit (openL b s.Units u.Side u.Kind, spreadL b.Map (openL b s.Units u.Side u.Kind) src)) := by
   apply e_spec_jUnit
   rw [ixA_get sl_cUnit _ _ hk, cast_of inj_spec_jOpen (c_spec_jOpen _ _ _ _ g (unit_side (g.u u hu)) hkd.1 hkd.2), cast_of inj_spec_jFar (c_spec_jFar _ _ _ (src_ok g.bg hs s.Units u.Side u.Kind))]
   rfl
  rw [if_neg (by simpa using h0), if_neg h0, cast_of inj_spec_jUnit hj, ixA_get sl_cI _ _ (way_get g.bg hs (by omega) hp.1), kk_spec_l1In]
  generalize (getI (spreadL b.Map (openL b s.Units u.Side u.Kind) src) u.At).getD 0 = d
  have e : inB 0 b.Rules.Supply d = decide (0 ≤ if b.Rules.Supply < d then -1 else d) := by
   rw [Bool.eq_iff_iff, inB_iff, decide_eq_true_eq]
   split <;> omega
  rw [e]
  rfl
theorem gvStT {σ : Store} {t w : Int} {us : List DUnit} {i : Id} {f : Bool} {n m : Nat} (h : n = us.length) (g : σ.get? i = some (rowB f false 4 cUnit us)) : giveUpT σ (.agg [I t, I w, .own i none 0 n m]) = some (.agg (cState ⟨t, w, us⟩)) := gvState' h g
theorem unit_of {us : List DUnit} {side k : Int} (h : k ∈ ofL us side) : ∃ (n : Nat) (u : DUnit), k = n ∧ n < us.length ∧ getI us k = some u ∧ u ∈ us ∧ (getI us k).getD zU = u ∧ onSide side u = true := by
 obtain ⟨n, u, h1, h2, h3, h4⟩ := mem_of h
 exact ⟨n, u, h1, (List.getElem?_eq_some_iff.1 h2).1, h3, mem_of_get h2, by rw [h3]; rfl, h4⟩
theorem of_len (us : List DUnit) (side : Int) : (ofL us side).length ≤ us.length := by
 unfold ofL colI
 have key : ∀ (l : List DUnit) (n : Nat), (colN (fun _ u => u.Side == side && decide (0 ≤ u.At)) (fun k _ => (k : Int)) n l).length ≤ l.length := by
  intro l
  induction l with
  | nil => intro n; simp [colN]
  | cons x l ih =>
   intro n
   unfold colN
   have := ih (n + 1)
   split <;> simp <;> omega
 exact key us 0
theorem src_en (l : List Int) (c : Dl1Cur) : ((AV.own (Id.r 0 0) none 0 l.length l.length, [(Id.l 0, some { arr := false, fr := false, nest := false, esz := 0, cells := cl1Cur c }), (Id.r 0 0, some (rowB true false 1 cI l))]) : R) = en_sc_sources ((l, []), c) := by
 simp [en_sc_sources]
theorem t_sc_sources (b : DBoard) (s : DState) (hu : s.Units.length ≤ 20) (l : List Int) (c : Dl1Cur) (n : Int) (hl : l.length ≤ 5) (hc : Cu c n) (hn : n ≤ Far - 500) :
  OK (P_sc_sources_L3 l c b s 0 l.length l.length (-1)) fun r => ∃ v, r = en_sc_sources v ∧ (v.1.1.length ≤ 20 ∧ Cu v.2 (n + 100)) := by
 unfold Far at hn
 unfold P_sc_sources_L3
 rw [if_neg (by simp)]
 have tl : ∀ (c' : Dl1Cur) (F : Dl1Cur → Int → Prop), F = F := fun _ _ => rfl
 clear tl
 refine OK.ite (fun hpos => ?_) (fun _ => ?_)
 ·refine koA inj_sc_one (o_sc_one _ _ _ hc (by unfold Far; omega)) fun o ho => ?_
  refine OK.ite (fun _ => ?_) (fun _ => ?_)
  ·refine koA inj_sc_pick (o_sc_pick _ _ _ ho (by unfold Far; omega)) fun p0 hp0 => ?_
   have hlen : 0 < s.Units.length := by simpa using hpos
   obtain ⟨m, hm⟩ : ∃ m : Nat, p0.1 = m := ⟨p0.1.toNat, by omega⟩
   have hy : s.Units[m]? = some (s.Units[m]'(by omega)) := List.getElem?_eq_getElem (by omega)
   rw [hm, ixA_at sl_cUnit rfl hy]
   have hc2 : Cu p0.2 (n + 10) := hp0.2.2.to
   refine OK.ite (fun _ => ?_) (fun _ => ?_)
   ·refine ok_spec_l1Put _ _ (by omega) ?_ fun l' hl' => ?_
    all_goals
     dsimp only
     refine koA inj_sc_pick (o_sc_pick _ _ _ hc2 (by unfold Far; omega)) fun p hp => ?_
     obtain ⟨_, _, hp2⟩ := hp
     refine OK.ite (fun _ => ?_) (fun _ => OK.ite (fun _ => ?_) (fun _ => OK.ite (fun _ => ?_) (fun _ => ?_)))
     ·refine OK.cast (slc_inj ok_cI) (a := [-1, 0, 100]) rfl ?_
      refine koA inj_sc_among (o_sc_among _ _ _ hp2 (by unfold Far; omega) (by simp)) fun q hq => ?_
      rw [apR_eq rt_cI rfl (xs := [q.1]) (Src.row (n := 1) ok_cI rfl rfl) rfl rfl (by simp; omega) (by simp; omega) rfl]
      exact OK.some ⟨((_, []), _), src_en _ _, by simp; omega, hq.2.to⟩
     ·exact OK.some ⟨(([], []), _), src_en [] _, by simp, hp2.to⟩
     ·refine koA inj_sc_pick (o_sc_pick _ _ _ hp2 (by unfold Far; omega)) fun q hq => ?_
      have hq1 : q.1 = 0 ∨ q.1 = 1 := by omega
      rcases hq1 with h | h
      ·refine OK.eq (slO_hi rt_cI (l := [0, 1, 2, 3, 4, 5, 6]) (j := 6) rfl (by rw [h]; rfl) (by omega) _) ?_
       exact OK.some ⟨(([0, 1, 2, 3, 4, 5], [6]), _), rfl, by simp, hq.2.2.to⟩
      ·refine OK.eq (slO_hi rt_cI (l := [0, 1, 2, 3, 4, 5, 6]) (j := 7) rfl (by rw [h]; rfl) (by omega) _) ?_
       exact OK.some ⟨(([0, 1, 2, 3, 4, 5, 6], []), _), rfl, by simp, hq.2.2.to⟩
     ·exact OK.some ⟨((_, []), _), src_en _ _, by dsimp only; omega, hp2.to⟩
   ·refine koA inj_sc_pick (o_sc_pick _ _ _ hc2 (by unfold Far; omega)) fun p hp => ?_
    obtain ⟨_, _, hp2⟩ := hp
    refine OK.ite (fun _ => ?_) (fun _ => OK.ite (fun _ => ?_) (fun _ => OK.ite (fun _ => ?_) (fun _ => ?_)))
    ·refine OK.cast (slc_inj ok_cI) (a := [-1, 0, 100]) rfl ?_
     refine koA inj_sc_among (o_sc_among _ _ _ hp2 (by unfold Far; omega) (by simp)) fun q hq => ?_
     rw [apR_eq rt_cI rfl (xs := [q.1]) (Src.row (n := 1) ok_cI rfl rfl) rfl rfl (by simp; omega) (by simp; omega) rfl]
     exact OK.some ⟨((_, []), _), src_en _ _, by simp; omega, hq.2.to⟩
    ·exact OK.some ⟨(([], []), _), src_en [] _, by simp, hp2.to⟩
    ·refine koA inj_sc_pick (o_sc_pick _ _ _ hp2 (by unfold Far; omega)) fun q hq => ?_
     have hq1 : q.1 = 0 ∨ q.1 = 1 := by omega
     rcases hq1 with h | h
     ·refine OK.eq (slO_hi rt_cI (l := [0, 1, 2, 3, 4, 5, 6]) (j := 6) rfl (by rw [h]; rfl) (by omega) _) ?_
      exact OK.some ⟨(([0, 1, 2, 3, 4, 5], [6]), _), rfl, by simp, hq.2.2.to⟩
     ·refine OK.eq (slO_hi rt_cI (l := [0, 1, 2, 3, 4, 5, 6]) (j := 7) rfl (by rw [h]; rfl) (by omega) _) ?_
      exact OK.some ⟨(([0, 1, 2, 3, 4, 5, 6], []), _), rfl, by simp, hq.2.2.to⟩
    ·exact OK.some ⟨((_, []), _), src_en _ _, by dsimp only; omega, hp2.to⟩
  ·have hc2 : Cu o.2 (n + 10) := ho.to
   refine koA inj_sc_pick (o_sc_pick _ _ _ hc2 (by unfold Far; omega)) fun p hp => ?_
   obtain ⟨_, _, hp2⟩ := hp
   refine OK.ite (fun _ => ?_) (fun _ => OK.ite (fun _ => ?_) (fun _ => OK.ite (fun _ => ?_) (fun _ => ?_)))
   ·refine OK.cast (slc_inj ok_cI) (a := [-1, 0, 100]) rfl ?_
    refine koA inj_sc_among (o_sc_among _ _ _ hp2 (by unfold Far; omega) (by simp)) fun q hq => ?_
    rw [apR_eq rt_cI rfl (xs := [q.1]) (Src.row (n := 1) ok_cI rfl rfl) rfl rfl (by simp; omega) (by simp; omega) rfl]
    exact OK.some ⟨((_, []), _), src_en _ _, by simp; omega, hq.2.to⟩
   ·exact OK.some ⟨(([], []), _), src_en [] _, by simp, hp2.to⟩
   ·refine koA inj_sc_pick (o_sc_pick _ _ _ hp2 (by unfold Far; omega)) fun q hq => ?_
    have hq1 : q.1 = 0 ∨ q.1 = 1 := by omega
    rcases hq1 with h | h
    ·refine OK.eq (slO_hi rt_cI (l := [0, 1, 2, 3, 4, 5, 6]) (j := 6) rfl (by rw [h]; rfl) (by omega) _) ?_
     exact OK.some ⟨(([0, 1, 2, 3, 4, 5], [6]), _), rfl, by simp, hq.2.2.to⟩
    ·refine OK.eq (slO_hi rt_cI (l := [0, 1, 2, 3, 4, 5, 6]) (j := 7) rfl (by rw [h]; rfl) (by omega) _) ?_
     exact OK.some ⟨(([0, 1, 2, 3, 4, 5, 6], []), _), rfl, by simp, hq.2.2.to⟩
   ·exact OK.some ⟨((_, []), _), src_en _ _, by dsimp only; omega, hp2.to⟩
 ·have hc2 : Cu c (n + 10) := hc.to
  refine koA inj_sc_pick (o_sc_pick _ _ _ hc2 (by unfold Far; omega)) fun p hp => ?_
  obtain ⟨_, _, hp2⟩ := hp
  refine OK.ite (fun _ => ?_) (fun _ => OK.ite (fun _ => ?_) (fun _ => OK.ite (fun _ => ?_) (fun _ => ?_)))
  ·refine OK.cast (slc_inj ok_cI) (a := [-1, 0, 100]) rfl ?_
   refine koA inj_sc_among (o_sc_among _ _ _ hp2 (by unfold Far; omega) (by simp)) fun q hq => ?_
   rw [apR_eq rt_cI rfl (xs := [q.1]) (Src.row (n := 1) ok_cI rfl rfl) rfl rfl (by simp; omega) (by simp; omega) rfl]
   exact OK.some ⟨((_, []), _), src_en _ _, by simp; omega, hq.2.to⟩
  ·exact OK.some ⟨(([], []), _), src_en [] _, by simp, hp2.to⟩
  ·refine koA inj_sc_pick (o_sc_pick _ _ _ hp2 (by unfold Far; omega)) fun q hq => ?_
   have hq1 : q.1 = 0 ∨ q.1 = 1 := by omega
   rcases hq1 with h | h
   ·refine OK.eq (slO_hi rt_cI (l := [0, 1, 2, 3, 4, 5, 6]) (j := 6) rfl (by rw [h]; rfl) (by omega) _) ?_
    exact OK.some ⟨(([0, 1, 2, 3, 4, 5], [6]), _), rfl, by simp, hq.2.2.to⟩
   ·refine OK.eq (slO_hi rt_cI (l := [0, 1, 2, 3, 4, 5, 6]) (j := 7) rfl (by rw [h]; rfl) (by omega) _) ?_
    exact OK.some ⟨(([0, 1, 2, 3, 4, 5, 6], []), _), rfl, by simp, hq.2.2.to⟩
  ·exact OK.some ⟨((_, []), _), src_en _ _, by dsimp only; omega, hp2.to⟩
theorem l_sc_sources_L3 (b : DBoard) (hb : BoardN b) (s : DState) (hu : s.Units.length ≤ 20) : ∀ (k : Nat) (l : List Int) (c : Dl1Cur) (n : Int), l.length + k ≤ 5 → Cu c n → n ≤ Far - 1000 - 20 * k →
  ∃ v, L_sc_sources_L3 l c b s 0 l.length l.length ((k : Int) - 1) = some (en_sc_sources v) ∧ (v.1.1.length ≤ 20 ∧ Cu v.2 (n + 20 * k + 100)) := by
 intro k
 induction k with
 | zero =>
  intro l c n hl hc hn
  unfold Far at hn
  refine okA (e_sc_sources_L3 _ _ _ _ _ _ _ _) ?_
  have h := t_sc_sources b s hu l c n (by omega) hc (by unfold Far; omega)
  exact h.mono fun r ⟨v, h1, h2, h3⟩ => ⟨v, h1, h2, h3.to⟩
 | succ k ih =>
  intro l c n hl hc hn
  unfold Far at hn
  refine okA (e_sc_sources_L3 _ _ _ _ _ _ _ _) ?_
  have ht := t_sc_sources b s hu l c n (by omega) hc (by unfold Far; omega)
  unfold P_sc_sources_L3 at ht ⊢
  rw [if_neg (by simp)] at ht
  rw [if_pos (by simp <;> omega), cast_of inj_spec_mGood (c_spec_mGood _ hb.m), wrap_id (n := ((k + 1 : Nat) : Int) - 1 - 1) (by omega) (by omega), show ((k + 1 : Nat) : Int) - 1 - 1 = (k : Int) - 1 by omega]
  refine OK.ite (fun _ => ?_) (fun _ => ?_)
  ·refine koA inj_sc_place (o_sc_place _ _ _ hc (by unfold Far; omega)) fun p hp => ?_
   refine ok_spec_l1Put _ _ (by omega) ?_ fun l' hl' => ?_
   ·obtain ⟨r, h1, h2⟩ := ih l p.2 (n + 4) (by omega) hp (by unfold Far; omega)
    exact ⟨_, h1, r, rfl, h2.1, h2.2.to⟩
   ·obtain ⟨r, h1, h2⟩ := ih l' p.2 (n + 4) (by omega) hp (by unfold Far; omega)
    exact ⟨_, h1, r, rfl, h2.1, h2.2.to⟩
  ·exact ht.mono fun r ⟨v, h1, h2, h3⟩ => ⟨v, h1, h2, h3.to⟩
theorem o_sc_sources (c : Dl1Cur) (b : DBoard) (s : DState) (hb : BoardN b) (hu : s.Units.length ≤ 20) (n : Int) (hc : Cu c n) (hn : n ≤ Far - 2000) : ∃ v, A_sc_sources c b s = some (en_sc_sources v) ∧ (v.1.1.length ≤ 20 ∧ Cu v.2 (n + 300)) := by
 refine okA (e_sc_sources _ _ _) ?_
 unfold Far at hn
 refine koA inj_sc_pick (o_sc_pick _ _ _ hc (by unfold Far; omega)) fun p hp => ?_
 obtain ⟨m, hm⟩ : ∃ m : Nat, p.1 = (m : Int) - 1 := ⟨(p.1 + 1).toNat, by omega⟩
 rw [hm]
 obtain ⟨r, h1, h2⟩ := l_sc_sources_L3 b hb s hu m [] p.2 (n + 2) (by simp; omega) hp.2.2 (by unfold Far; omega)
 exact ⟨_, h1, r, rfl, h2.1, h2.2.to⟩
def reachN (m : DMap) (op : List Bool) (src : List Int) : Nat → Int → Prop
 | 0, k => k ∈ src ∧ getI op k = some true
 | d + 1, k => ∃ j, reachN m op src d j ∧ k ∈ nbL m j ∧ getI op k = some true
def reached (st : St2) (i : Int) : Prop := 0 ≤ i ∧ 0 ≤ (getI st.1 i).getD (-1)
theorem reached_far {st : St2} {i : Int} (h : reached st i) : ∃ v, getI st.1 i = some v ∧ 0 ≤ v ∧ farL st i = v := by
 obtain ⟨_, h⟩ := h
 cases hg : getI st.1 i with
 | none => rw [hg] at h; simp at h
 | some v => rw [hg] at h; exact ⟨v, rfl, h, by unfold farL; rw [hg]; rfl⟩
structure BQ (m : DMap) (op : List Bool) (src : List Int) (n a : Nat) (st : St2) : Prop where
 len : st.1.length = n
 inq : ∀ i ∈ st.2, 0 ≤ i ∧ i < n ∧ reached st i
 all : ∀ i, reached st i → i ∈ st.2
 ord : ∀ (p q : Nat) (x y : Int), p ≤ q → st.2[p]? = some x → st.2[q]? = some y → farL st x ≤ farL st y
 top : ∀ (x c : Int), st.2[a]? = some c → x ∈ st.2 → farL st x ≤ farL st c + 1
 low : ∀ (p : Nat) (x : Int), p < a → st.2[p]? = some x → ∀ k ∈ nbL m x, getI op k = some true → reached st k ∧ farL st k ≤ farL st x + 1
 one : ∀ i, reached st i → reachN m op src (farL st i).toNat i
 src0 : ∀ i ∈ src, getI op i = some true → reached st i ∧ farL st i = 0
theorem getI_set {l : List Int} {k i z : Int} {n : Nat} (hl : l.length = n) (h0 : 0 ≤ k) (h1 : k < n) : getI (l.set k.toNat z) i = if i = k then some z else getI l i := by
 unfold getI
 by_cases hi : 0 ≤ i
 ·simp only [if_pos hi]
  by_cases h : i = k
  ·subst h
   rw [if_pos rfl, List.getElem?_set_self (by omega)]
  ·rw [if_neg h, List.getElem?_set_ne (by omega)]
 ·simp only [if_neg hi]
  rw [if_neg (by omega)]
theorem reached_set {st : St2} {k i z : Int} {q : List Int} {n : Nat} (hl : st.1.length = n) (h0 : 0 ≤ k) (h1 : k < n) (hz : 0 ≤ z) : reached (st.1.set k.toNat z, q) i ↔ i = k ∨ reached st i := by
 unfold reached
 dsimp only
 rw [getI_set hl h0 h1]
 by_cases h : i = k
 ·subst h
  rw [if_pos rfl]
  exact ⟨fun _ => .inl rfl, fun _ => ⟨h0, hz⟩⟩
 ·rw [if_neg h]
  exact ⟨.inr, fun h2 => h2.resolve_left h⟩
structure BV (m : DMap) (op : List Bool) (src : List Int) (n a : Nat) (c d : Int) (seen : List Int) (st : St2) : Prop where
 len : st.1.length = n
 inq : ∀ i ∈ st.2, 0 ≤ i ∧ i < n ∧ reached st i
 all : ∀ i, reached st i → i ∈ st.2
 cur : st.2[a]? = some c ∧ farL st c = d ∧ 0 ≤ d
 hi : ∀ x ∈ st.2, farL st x ≤ d + 1
 ord : ∀ (p q : Nat) (x y : Int), p ≤ q → st.2[p]? = some x → st.2[q]? = some y → farL st x ≤ farL st y
 low : ∀ (p : Nat) (x : Int), p < a → st.2[p]? = some x → ∀ k ∈ nbL m x, getI op k = some true → reached st k ∧ farL st k ≤ farL st x + 1
 one : ∀ i, reached st i → reachN m op src (farL st i).toNat i
 src0 : ∀ i ∈ src, getI op i = some true → reached st i ∧ farL st i = 0
 done : ∀ k ∈ seen, getI op k = some true → reached st k ∧ farL st k ≤ d + 1
theorem BV.visit {m : DMap} {op : List Bool} {src : List Int} {n a : Nat} {c d : Int} {seen : List Int} {st : St2} (hop : op.length = n) (h : BV m op src n a c d seen st) {k : Int} (hk : k ∈ nbL m c) :
  BV m op src n a c d (seen ++ [k]) (visitB op d st k) := by
 rcases visit_cases (d := d) (st := st) (k := k) hop with e | ⟨k0, k1, ko, kn, e⟩
 ·rw [e]
  refine ⟨h.len, h.inq, h.all, h.cur, h.hi, h.ord, h.low, h.one, h.src0, ?_⟩
  intro x hx hox
  rcases List.mem_append.1 hx with hx | hx
  ·exact h.done x hx hox
  ·simp only [List.mem_singleton] at hx
   subst hx
   obtain ⟨j, hj, hjx, hjl⟩ := getI_some hox
   have hg := far_get h.len (i := x) (by omega) (by omega)
   have hr : reached st x := by
    refine ⟨by omega, ?_⟩
    rw [hg]
    show 0 ≤ farL st x
    by_cases hneg : farL st x < 0
    ·exfalso
     have e2 : visitB op d st x = (st.1.set x.toNat (d + 1), st.2 ++ [x]) := by rw [visit_get hox, if_pos rfl, if_pos hneg]
     rw [e] at e2
     have := congrArg (fun z : St2 => z.2.length) e2
     simp at this
    ·omega
   exact ⟨hr, h.hi x (h.all x hr)⟩
 ·have hnot : ∀ x, reached st x → x ≠ k := fun x hx hxk => by
   obtain ⟨v, _, h2, h3⟩ := reached_far hx
   rw [hxk] at h3
   omega
  have hd := h.cur.2.2
  have far' : ∀ x, 0 ≤ x → farL (st.1.set k.toNat (d + 1), st.2 ++ [k]) x = if x = k then d + 1 else farL st x := fun x hx => far_set h.len k0 k1 hx
  have farr : ∀ x, reached st x → farL (st.1.set k.toNat (d + 1), st.2 ++ [k]) x = farL st x := fun x hx => by rw [far' x hx.1, if_neg (hnot x hx)]
  have fark : farL (st.1.set k.toNat (d + 1), st.2 ++ [k]) k = d + 1 := by rw [far' k k0, if_pos rfl]
  have rs : ∀ x, reached (st.1.set k.toNat (d + 1), st.2 ++ [k]) x ↔ x = k ∨ reached st x := fun x => reached_set h.len k0 k1 (by omega)
  have hcl : st.2[a]? = some c := h.cur.1
  have hal := (List.getElem?_eq_some_iff.1 hcl).1
  have hrc : reached st c := (h.inq c (mem_of_get hcl)).2.2
  have get' : ∀ p x, (st.2 ++ [k])[p]? = some x → (p < st.2.length ∧ st.2[p]? = some x) ∨ (p = st.2.length ∧ x = k) := fun p x hx => by
   by_cases hp : p < st.2.length
   ·rw [List.getElem?_append_left hp] at hx
    exact .inl ⟨hp, hx⟩
   ·rw [List.getElem?_append_right (by omega)] at hx
    have hp2 := (List.getElem?_eq_some_iff.1 hx).1
    simp only [List.length_cons, List.length_nil] at hp2
    have hpe : p = st.2.length := by omega
    subst hpe
    simp at hx
    exact .inr ⟨rfl, hx.symm⟩
  rw [e]
  refine ⟨by simp [h.len], fun i hi => ?_, fun i hi => ?_, ?_, fun x hx => ?_, fun p q x y hpq hx hy => ?_, fun p x hp hx k' hk' ho' => ?_, fun i hi => ?_, fun i hi ho => ?_, fun x hx ho => ?_⟩
  ·rcases List.mem_append.1 hi with hi | hi
   ·have := h.inq i hi
    exact ⟨this.1, this.2.1, (rs i).2 (.inr this.2.2)⟩
   ·simp only [List.mem_singleton] at hi
    subst hi
    exact ⟨k0, k1, (rs i).2 (.inl rfl)⟩
  ·rcases (rs i).1 hi with hi | hi
   ·subst hi; exact List.mem_append.2 (.inr (by simp))
   ·exact List.mem_append.2 (.inl (h.all i hi))
  ·refine ⟨by rw [List.getElem?_append_left hal]; exact hcl, by rw [farr c hrc]; exact h.cur.2.1, hd⟩
  ·rcases List.mem_append.1 hx with hx | hx
   ·rw [farr x (h.inq x hx).2.2]; exact h.hi x hx
   ·simp only [List.mem_singleton] at hx
    subst hx
    rw [fark]; omega
  ·rcases get' p x hx with ⟨hp, hx⟩ | ⟨hp, hx⟩
   ·rw [farr x (h.inq x (mem_of_get hx)).2.2]
    rcases get' q y hy with ⟨hq, hy⟩ | ⟨hq, hy⟩
    ·rw [farr y (h.inq y (mem_of_get hy)).2.2]
     exact h.ord p q x y hpq hx hy
    ·rw [hy, fark]
     exact h.hi x (mem_of_get hx)
   ·rcases get' q y hy with ⟨hq, hy⟩ | ⟨hq, hy⟩
    ·omega
    ·rw [hx, hy]; omega
  ·rcases get' p x hx with ⟨hp2, hx⟩ | ⟨hp2, hx⟩
   ·have := h.low p x hp hx k' hk' ho'
    rw [farr k' this.1, farr x (h.inq x (mem_of_get hx)).2.2]
    exact ⟨(rs k').2 (.inr this.1), this.2⟩
   ·omega
  ·rcases (rs i).1 hi with hi | hi
   ·subst hi
    rw [fark, show (d + 1).toNat = d.toNat + 1 by omega]
    have := h.one c hrc
    rw [h.cur.2.1] at this
    exact ⟨c, this, hk, ko⟩
   ·rw [farr i hi]; exact h.one i hi
  ·have := h.src0 i hi ho
   exact ⟨(rs i).2 (.inr this.1), by rw [farr i this.1]; exact this.2⟩
  ·rcases List.mem_append.1 hx with hx | hx
   ·have := h.done x hx ho
    exact ⟨(rs x).2 (.inr this.1), by rw [farr x this.1]; exact this.2⟩
   ·simp only [List.mem_singleton] at hx
    subst hx
    exact ⟨(rs x).2 (.inl rfl), by rw [fark]; omega⟩
theorem BV.fold {m : DMap} {op : List Bool} {src : List Int} {n a : Nat} {c d : Int} (hop : op.length = n) : ∀ (ks seen : List Int) (st : St2), (∀ k ∈ ks, k ∈ nbL m c) → BV m op src n a c d seen st → BV m op src n a c d (seen ++ ks) (ks.foldl (visitB op d) st)
 | [], seen, st, _, h => by simpa using h
 | k :: ks, seen, st, hk, h => by
  have := BV.fold hop ks (seen ++ [k]) _ (fun x hx => hk x (by simp [hx])) (h.visit hop (hk k (by simp)))
  simpa using this
theorem BQ.step {m : DMap} {op : List Bool} {src : List Int} {n a : Nat} {st : St2} (hop : op.length = n) (h : BQ m op src n a st) (ha : a < st.2.length) : BQ m op src n (a + 1) (stepB m op a st) := by
 have hq : st.2[a]? = some (quL st a) := by unfold quL; rw [List.getD_eq_getElem?_getD, List.getElem?_eq_getElem ha]; rfl
 have hc := h.inq _ (mem_of_get hq)
 obtain ⟨v, _, hv, hv2⟩ := reached_far hc.2.2
 have h0 : BV m op src n a (quL st a) (farL st (quL st a)) [] st :=
  ⟨h.len, h.inq, h.all, ⟨hq, rfl, by omega⟩, fun x hx => h.top x _ hq hx, h.ord, h.low, h.one, h.src0, fun k hk => by cases hk⟩
 have hf := BV.fold hop (nbL m (quL st a)) [] st (fun _ hk => hk) h0
 rw [List.nil_append] at hf
 have hf : BV m op src n a (quL st a) (farL st (quL st a)) (nbL m (quL st a)) (stepB m op a st) := hf
 refine ⟨hf.len, hf.inq, hf.all, hf.ord, fun x c' hc' hx => ?_, fun p x hp hx k hk ho => ?_, hf.one, hf.src0⟩
 ·have h1 := hf.hi x hx
  have h2 := hf.ord a (a + 1) _ _ (by omega) hf.cur.1 hc'
  rw [hf.cur.2.1] at h2
  omega
 ·by_cases hpa : p = a
  ·subst hpa
   have := hf.cur.1
   rw [hx] at this
   injection this with this
   subst this
   rw [hf.cur.2.1]
   exact hf.done k hk ho
  ·exact hf.low p x (by omega) hx k hk ho
structure BS (m : DMap) (op : List Bool) (src : List Int) (n : Nat) (seen : List Int) (st : St2) : Prop where
 len : st.1.length = n
 inq : ∀ i ∈ st.2, 0 ≤ i ∧ i < n ∧ reached st i ∧ farL st i = 0
 all : ∀ i, reached st i → i ∈ st.2
 one : ∀ i, reached st i → i ∈ src ∧ getI op i = some true
 done : ∀ i ∈ seen, getI op i = some true → reached st i
theorem BS.seed {m : DMap} {op : List Bool} {src : List Int} {n : Nat} {seen : List Int} {st : St2} (hop : op.length = n) (h : BS m op src n seen st) {i : Int} (hi : i ∈ src) : BS m op src n (seen ++ [i]) (seedB op st i) := by
 unfold seedB
 cases hg : getI op i with
 | none =>
  refine ⟨h.len, h.inq, h.all, h.one, fun x hx ho => ?_⟩
  rcases List.mem_append.1 hx with hx | hx
  ·exact h.done x hx ho
  ·simp only [List.mem_singleton] at hx
   subst hx
   rw [hg] at ho; cases ho
 | some o =>
  cases o with
  | false =>
   refine ⟨h.len, h.inq, h.all, h.one, fun x hx ho => ?_⟩
   rcases List.mem_append.1 hx with hx | hx
   ·exact h.done x hx ho
   ·simp only [List.mem_singleton] at hx
    subst hx
    rw [hg] at ho; cases ho
  | true =>
   obtain ⟨j, hj, _, hl⟩ := getI_some hg
   have k0 : 0 ≤ i := by omega
   have k1 : i < n := by omega
   have rs : ∀ x, reached (st.1.set i.toNat 0, st.2 ++ [i]) x ↔ x = i ∨ reached st x := fun x => reached_set h.len k0 k1 (Int.le_refl 0)
   rw [if_pos (show (some true).getD false = true from rfl)]
   refine ⟨by simp [h.len], fun x hx => ?_, fun x hx => ?_, fun x hx => ?_, fun x hx ho => ?_⟩
   ·rcases List.mem_append.1 hx with hx | hx
    ·have := h.inq x hx
     refine ⟨this.1, this.2.1, (rs x).2 (.inr this.2.2.1), ?_⟩
     rw [far_set h.len k0 k1 this.1]
     split
     ·rfl
     ·exact this.2.2.2
    ·simp only [List.mem_singleton] at hx
     subst hx
     exact ⟨k0, k1, (rs x).2 (.inl rfl), by rw [far_set h.len k0 k1 k0, if_pos rfl]⟩
   ·rcases (rs x).1 hx with hx | hx
    ·subst hx; exact List.mem_append.2 (.inr (by simp))
    ·exact List.mem_append.2 (.inl (h.all x hx))
   ·rcases (rs x).1 hx with hx | hx
    ·subst hx; exact ⟨hi, hg⟩
    ·exact h.one x hx
   ·rcases List.mem_append.1 hx with hx | hx
    ·exact (rs x).2 (.inr (h.done x hx ho))
    ·simp only [List.mem_singleton] at hx
     subst hx
     exact (rs x).2 (.inl rfl)
theorem BS.fold {m : DMap} {op : List Bool} {src : List Int} {n : Nat} (hop : op.length = n) : ∀ (l seen : List Int) (st : St2), (∀ i ∈ l, i ∈ src) → BS m op src n seen st → BS m op src n (seen ++ l) (l.foldl (seedB op) st)
 | [], seen, st, _, h => by simpa using h
 | i :: l, seen, st, hl, h => by
  have := BS.fold hop l (seen ++ [i]) _ (fun j hj => hl j (by simp [hj])) (h.seed hop (hl i (by simp)))
  simpa using this
theorem BS.queue {m : DMap} {op : List Bool} {src : List Int} {n : Nat} {st : St2} (h : BS m op src n src st) : BQ m op src n 0 st := by
 refine ⟨h.len, fun i hi => ⟨(h.inq i hi).1, (h.inq i hi).2.1, (h.inq i hi).2.2.1⟩, h.all, fun p q x y _ hx hy => ?_, fun x c hc hx => ?_, fun p x hp => by omega, fun i hi => ?_, fun i hi ho => ?_⟩
 ·rw [(h.inq x (mem_of_get hx)).2.2.2, (h.inq y (mem_of_get hy)).2.2.2]; exact Int.le_refl 0
 ·rw [(h.inq x hx).2.2.2, (h.inq c (mem_of_get hc)).2.2.2]; omega
 ·rw [(h.inq i (h.all i hi)).2.2.2]
  exact h.one i hi
 ·have := h.done i hi ho
  exact ⟨this, (h.inq i (h.all i this)).2.2.2⟩
theorem BQ.run {m : DMap} {op : List Bool} {src : List Int} {n : Nat} (hop : op.length = n) : ∀ (f a : Nat) (st : St2), totB st ≤ a + f → BI n src a st → BQ m op src n a st → ∃ b, (runB m op f a st).2.length ≤ b ∧ BQ m op src n b (runB m op f a st)
 | 0, a, st, ht, _, h => ⟨a, by unfold runB; unfold totB at ht; omega, h⟩
 | f + 1, a, st, ht, hb, h => by
  unfold runB
  split
  ·rename_i ha
   have hs := hb.step (m := m) hop ha
   exact BQ.run hop f (a + 1) _ (by omega) hs.1 (h.step hop ha)
  ·exact ⟨a, by omega, h⟩
theorem spread_queue (m : DMap) (op : List Bool) (src : List Int) : ∃ b st, spreadL m op src = st.1 ∧ st.2.length ≤ b ∧ BQ m op src op.length b st := by
 have hi := (seeds_ok (op := op) (n := op.length) (src := src) rfl src _ (fun _ h => h) (BI.init op.length src)).1
 have h0 : BS m op src op.length [] (List.replicate op.length (-1), []) := by
  have nr : ∀ i, ¬ reached (List.replicate op.length (-1), []) i := fun i hr => by
   obtain ⟨v, h1, h2, _⟩ := reached_far hr
   obtain ⟨k, _, hx, _⟩ := getI_some h1
   have := List.eq_of_mem_replicate (mem_of_get hx)
   omega
  exact ⟨by simp, fun i hi => (by cases hi), fun i hi => absurd hi (nr i), fun i hi => absurd hi (nr i), fun i hi => (by cases hi)⟩
 have hs := BS.fold rfl src [] _ (fun _ h => h) h0
 rw [List.nil_append] at hs
 obtain ⟨b, h1, h2⟩ := BQ.run (m := m) rfl (totB (seedsL op src)) 0 (seedsL op src) (by omega) hi hs.queue
 exact ⟨b, _, rfl, h1, h2⟩
theorem spread_le {m : DMap} {op : List Bool} {src : List Int} {d : Nat} {k : Int} (h : reachN m op src d k) : ∃ v, getI (spreadL m op src) k = some v ∧ 0 ≤ v ∧ v ≤ d := by
 obtain ⟨b, st, he, hb, hq⟩ := spread_queue m op src
 have key : ∀ (d : Nat) (k : Int), reachN m op src d k → reached st k ∧ farL st k ≤ d := by
  intro d
  induction d with
  | zero =>
   intro k h
   have := hq.src0 k h.1 h.2
   exact ⟨this.1, by omega⟩
  | succ d ih =>
   intro k h
   obtain ⟨j, hj, hk, ho⟩ := h
   have h1 := ih j hj
   obtain ⟨p, hp, hpx⟩ := List.mem_iff_getElem.1 (hq.all j h1.1)
   have := hq.low p j (by omega) (by rw [List.getElem?_eq_getElem hp, hpx]) k hk ho
   exact ⟨this.1, by omega⟩
 have := key d k h
 obtain ⟨v, h1, h2, h3⟩ := reached_far this.1
 rw [he]
 exact ⟨v, h1, h2, by omega⟩
theorem spread_one {m : DMap} {op : List Bool} {src : List Int} {k v : Int} (h : getI (spreadL m op src) k = some v) (h0 : 0 ≤ v) : reachN m op src v.toNat k := by
 obtain ⟨b, st, he, hb, hq⟩ := spread_queue m op src
 rw [he] at h
 obtain ⟨j, hj, _⟩ := getI_some h
 have hr : reached st k := ⟨by omega, by rw [h]; exact h0⟩
 have := hq.one k hr
 have hf : farL st k = v := by unfold farL; rw [h]; rfl
 rwa [hf] at this
theorem hexL_idx {m : DMap} {h : DHex} (h0 : 0 ≤ idxL m h) : hexL m (idxL m h) = h := by
 unfold idxL at *
 split at h0
 ·rename_i hc
  rw [if_pos hc]
  simp only [Bool.and_eq_true, inB_iff] at hc
  obtain ⟨⟨a, b⟩, c, d⟩ := hc
  obtain ⟨q, r⟩ := h
  dsimp only at a b c d h0 ⊢
  unfold hexL
  rw [Int.tmod_eq_emod_of_nonneg h0, Int.tdiv_eq_ediv_of_nonneg h0]
  have e : r * m.Width + q = q + r * m.Width := by omega
  rw [e, Int.add_mul_emod_self_right, Int.add_mul_ediv_right _ _ (by omega), Int.emod_eq_of_lt a (by omega), Int.ediv_eq_zero_of_lt a (by omega)]
  simp
 ·omega
theorem idx_hexL {m : DMap} {i : Int} (hw : 0 < m.Width) (h0 : 0 ≤ i) (h1 : i < m.Width * m.Height) : idxL m (hexL m i) = i := by
 unfold idxL hexL
 rw [Int.tmod_eq_emod_of_nonneg h0, Int.tdiv_eq_ediv_of_nonneg h0]
 dsimp only
 have a := Int.emod_nonneg i (show m.Width ≠ 0 by omega)
 have b := Int.emod_lt_of_pos i hw
 have c : 0 ≤ i / m.Width := Int.ediv_nonneg h0 (Int.le_of_lt hw)
 have d : i / m.Width < m.Height := Int.ediv_lt_of_lt_mul hw (by rwa [Int.mul_comm] at h1)
 rw [if_pos (by simp only [Bool.and_eq_true, inB_iff]; omega)]
 have := Int.emod_add_mul_ediv i m.Width
 rw [Int.mul_comm] at this
 omega
theorem step_back (h : DHex) {d : Int} (hd : d ∈ dl) : ∃ e ∈ dl, stepL (stepL h d 1) e 1 = h := by
 obtain ⟨q, r⟩ := h
 simp only [dl, List.mem_cons, List.not_mem_nil, or_false] at hd
 rcases hd with h | h | h | h | h | h <;> subst h
 ·exact ⟨3, by simp [dl], by simp [stepL, nthI, dq, dr]; omega⟩
 ·exact ⟨4, by simp [dl], by simp [stepL, nthI, dq, dr]; omega⟩
 ·exact ⟨5, by simp [dl], by simp [stepL, nthI, dq, dr]; omega⟩
 ·exact ⟨0, by simp [dl], by simp [stepL, nthI, dq, dr]; omega⟩
 ·exact ⟨1, by simp [dl], by simp [stepL, nthI, dq, dr]; omega⟩
 ·exact ⟨2, by simp [dl], by simp [stepL, nthI, dq, dr]; omega⟩
theorem nb_step {m : DMap} {i k : Int} (hk : k ∈ nbL m i) : 0 ≤ k ∧ ∃ d ∈ dl, k = nextL m i d ∧ hexL m k = stepL (hexL m i) d 1 := by
 unfold nbL at hk
 rw [List.mem_filter, List.mem_map] at hk
 obtain ⟨⟨d, hd, rfl⟩, hk0⟩ := hk
 have hk0 : 0 ≤ nextL m i d := by simpa using hk0
 refine ⟨hk0, d, hd, rfl, ?_⟩
 unfold nextL at hk0 ⊢
 exact hexL_idx hk0
theorem nb_symm {m : DMap} {i k : Int} (hw : 0 < m.Width) (h0 : 0 ≤ i) (h1 : i < m.Width * m.Height) (hk : k ∈ nbL m i) : i ∈ nbL m k := by
 obtain ⟨k0, d, hd, rfl, he⟩ := nb_step hk
 obtain ⟨e, he1, he2⟩ := step_back (hexL m i) hd
 unfold nbL
 rw [List.mem_filter, List.mem_map]
 refine ⟨⟨e, he1, ?_⟩, by simpa using h0⟩
 unfold nextL at he ⊢
 rw [he, he2, idx_hexL hw h0 h1]
theorem reach_open {m : DMap} {op : List Bool} {src : List Int} {d : Nat} {k : Int} (h : reachN m op src d k) : getI op k = some true := by
 cases d with
 | zero => exact h.2
 | succ d =>
  obtain ⟨_, _, _, h⟩ := h
  exact h
structure MapO (m : DMap) (op : List Bool) : Prop where
 w : 0 < m.Width
 n : (op.length : Int) = m.Width * m.Height
theorem MapO.back {m : DMap} {op : List Bool} (h : MapO m op) {c i : Int} {b : Bool} (hc : getI op c = some b) (hi : i ∈ nbL m c) : c ∈ nbL m i := by
 obtain ⟨k, rfl, hk, _⟩ := getI_some hc
 have := h.n
 have hl := (List.getElem?_eq_some_iff.1 hk).1
 exact nb_symm h.w (by omega) (by omega) hi
theorem reach_cat {m : DMap} {op : List Bool} {src : List Int} {a : Int} (hm : MapO m op) : ∀ (b : Nat) (i : Int) (n : Nat), reachN m op [a] b i → reachN m op src n i → reachN m op src (n + b) a
 | 0, i, n, h, h2 => by
  have : i = a := by simpa using h.1
  subst this
  exact h2
 | b + 1, i, n, ⟨c, hc, hi, ho⟩, h2 => by
  have oc := reach_open hc
  have := reach_cat hm b c (n + 1) hc ⟨i, h2, hm.back oc hi, oc⟩
  rwa [show n + 1 + b = n + (b + 1) by omega] at this
theorem reach_src {m : DMap} {op : List Bool} {src : List Int} {a : Int} (hm : MapO m op) : ∀ (n : Nat) (k : Int) (b : Nat), reachN m op src n k → reachN m op [a] b k → ∃ s ∈ src, reachN m op [a] (b + n) s
 | 0, k, b, h, h2 => ⟨k, h.1, h2⟩
 | n + 1, k, b, ⟨c, hc, hk, ho⟩, h2 => by
  have oc := reach_open hc
  have := reach_src hm n c (b + 1) hc ⟨k, h2, hm.back oc hk, oc⟩
  rwa [show b + 1 + n = b + (n + 1) by omega] at this
theorem far_sum {m : DMap} {op : List Bool} {src : List Int} {a k v w : Int} (hm : MapO m op) (h : getI (spreadL m op src) k = some v) (hv : 0 ≤ v) (h2 : getI (spreadL m op [a]) k = some w) (hw : 0 ≤ w) : ∃ n, getI (spreadL m op src) a = some n ∧ 0 ≤ n ∧ n ≤ v + w := by
 obtain ⟨n, h1, h2, h3⟩ := spread_le (reach_cat hm _ _ _ (spread_one h2 hw) (spread_one h hv))
 exact ⟨n, h1, h2, by omega⟩
theorem far_edge {m : DMap} {op : List Bool} {src : List Int} {j k v : Int} (h : getI (spreadL m op src) j = some v) (hv : 0 ≤ v) (hk : k ∈ nbL m j) (ho : getI op k = some true) : ∃ w, getI (spreadL m op src) k = some w ∧ 0 ≤ w ∧ w ≤ v + 1 := by
 obtain ⟨n, h1, h2, h3⟩ := spread_le (d := v.toNat + 1) ⟨j, spread_one h hv, hk, ho⟩
 exact ⟨n, h1, h2, by omega⟩
theorem far_zero {m : DMap} {op : List Bool} {src : List Int} {k : Int} (hk : k ∈ src) (ho : getI op k = some true) : getI (spreadL m op src) k = some 0 := by
 obtain ⟨n, h1, h2, h3⟩ := spread_le (m := m) (d := 0) ⟨hk, ho⟩
 rw [h1]
 congr 1
 omega
theorem far_open {m : DMap} {op : List Bool} {src : List Int} {k v : Int} (h : getI (spreadL m op src) k = some v) (hv : 0 ≤ v) : getI op k = some true := reach_open (spread_one h hv)
theorem zero_src {m : DMap} {op : List Bool} {src : List Int} {k : Int} (h : getI (spreadL m op src) k = some 0) : k ∈ src := (spread_one h (by omega)).1
theorem far_start {m : DMap} {op : List Bool} {src : List Int} {a n : Int} (hm : MapO m op) (h : getI (spreadL m op src) a = some n) (hn : 0 ≤ n) : ∃ s ∈ src, getI (spreadL m op [a]) s = some n := by
 have ha := far_open h hn
 obtain ⟨s, hs, hr⟩ := reach_src (a := a) hm _ a 0 (spread_one h hn) ⟨by simp, ha⟩
 obtain ⟨v, h1, h2, h3⟩ := spread_le hr
 obtain ⟨q, q1, q2, q3⟩ := far_sum hm (far_zero (m := m) hs (far_open h1 h2)) (by omega) h1 h2
 rw [h] at q1
 cases q1
 refine ⟨s, hs, ?_⟩
 rw [h1]
 congr 1
 omega
theorem far_next {m : DMap} {op : List Bool} {src : List Int} {j w : Int} (hm : MapO m op) (h : getI (spreadL m op src) j = some w) (hw : 1 ≤ w) : ∃ k ∈ nbL m j, getI (spreadL m op src) k = some (w - 1) := by
 have hr := spread_one h (by omega)
 obtain ⟨d, hd⟩ : ∃ d, w.toNat = d + 1 := ⟨w.toNat - 1, by omega⟩
 rw [hd] at hr
 obtain ⟨c, hc, hj, ho⟩ := hr
 obtain ⟨v, h1, h2, h3⟩ := spread_le hc
 have oc := reach_open hc
 obtain ⟨q, q1, q2, q3⟩ := far_edge h1 h2 hj ho
 rw [h] at q1
 cases q1
 refine ⟨c, hm.back oc hj, ?_⟩
 rw [h1]
 congr 1
 omega
def okAt (m : DMap) (op : List Bool) (l : List Int) (n : Nat) : Bool := match l[n]? with
 | none => true
 | some i => (getI op i).getD false && (n == 0 || decide (i ∈ nbL m (l.getD (n - 1) 0)))
theorem fold_inv {α β : Type} (f : β → α → β) (Q : List α → β → Prop) (hs : ∀ pre x b, Q pre b → Q (pre ++ [x]) (f b x)) : ∀ (post pre : List α) (b : β), Q pre b → Q (pre ++ post) (post.foldl f b)
 | [], pre, b, h => by simpa using h
 | x :: r, pre, b, h => by
  have := fold_inv f Q hs r (pre ++ [x]) (f b x) (hs pre x b h)
  rw [List.append_assoc] at this
  exact this
def minW (p : Int → Bool) (l : List Int) : Int := l.foldl (fun best k => if p k && (decide (best < 0) || decide (k < best)) then k else best) (-1)
theorem minW_ok {p : Int → Bool} {l : List Int} (hl : ∀ k ∈ l, 0 ≤ k) (he : ∃ k ∈ l, p k = true) : minW p l ∈ l ∧ p (minW p l) = true ∧ ∀ k ∈ l, p k = true → minW p l ≤ k := by
 have key := fold_inv (fun best k => if p k && (decide (best < 0) || decide (k < best)) then k else best) (fun pre best => (∀ k ∈ pre, 0 ≤ k) → ((best = -1 ∧ ∀ k ∈ pre, p k = false) ∨ (0 ≤ best ∧ best ∈ pre ∧ p best = true ∧ ∀ k ∈ pre, p k = true → best ≤ k))) (fun pre x b ih hp => by
  have ih := ih fun k hk => hp k (List.mem_append_left _ hk)
  have hx := hp x (by simp)
  cases hpx : p x with
  | false =>
   simp only [Bool.false_and, Bool.false_eq_true, if_false]
   rcases ih with ⟨h1, h2⟩ | ⟨h1, h2, h3, h4⟩
   ·refine .inl ⟨h1, fun k hk => ?_⟩
    rcases List.mem_append.1 hk with hk | hk
    ·exact h2 k hk
    ·rw [List.mem_singleton.1 hk]; exact hpx
   ·refine .inr ⟨h1, List.mem_append_left _ h2, h3, fun k hk hk2 => ?_⟩
    rcases List.mem_append.1 hk with hk | hk
    ·exact h4 k hk hk2
    ·rw [List.mem_singleton.1 hk, hpx] at hk2; cases hk2
  | true =>
   simp only [Bool.true_and]
   rcases ih with ⟨h1, h2⟩ | ⟨h1, h2, h3, h4⟩
   ·rw [if_pos (by simp; omega)]
    refine .inr ⟨hx, by simp, hpx, fun k hk hk2 => ?_⟩
    rcases List.mem_append.1 hk with hk | hk
    ·rw [h2 k hk] at hk2; cases hk2
    ·rw [List.mem_singleton.1 hk]; omega
   ·by_cases hb : x < b
    ·rw [if_pos (by simp; omega)]
     refine .inr ⟨hx, by simp, hpx, fun k hk hk2 => ?_⟩
     rcases List.mem_append.1 hk with hk | hk
     ·have := h4 k hk hk2; omega
     ·rw [List.mem_singleton.1 hk]; omega
    ·rw [if_neg (by simp; omega)]
     refine .inr ⟨h1, List.mem_append_left _ h2, h3, fun k hk hk2 => ?_⟩
     rcases List.mem_append.1 hk with hk | hk
     ·exact h4 k hk hk2
     ·rw [List.mem_singleton.1 hk]; omega) l [] (-1) (fun _ => .inl ⟨rfl, fun k hk => (by cases hk)⟩)
 rw [List.nil_append] at key
 rcases key hl with ⟨_, h2⟩ | ⟨_, h2, h3, h4⟩
 ·obtain ⟨k, hk, hp⟩ := he
  rw [h2 k hk] at hp
  cases hp
 ·exact ⟨h2, h3, h4⟩
def srcW (left : List Int) (l : List Int) : Int := l.foldl (fun best i => if decide (0 ≤ (getI left i).getD 0) && (decide (best < 0) || decide ((getI left i).getD 0 < (getI left best).getD 0)) then i else best) (-1)
theorem srcW_ok {left l : List Int} {n : Int} (hl : ∀ k ∈ l, 0 ≤ k) (hr : ∀ (i j : Nat) (x y : Int), i < j → l[i]? = some x → l[j]? = some y → x < y) (hn : 0 ≤ n) (hb : ∀ k ∈ l, 0 ≤ (getI left k).getD 0 → n ≤ (getI left k).getD 0) (he : ∃ k ∈ l, (getI left k).getD 0 = n) :
  srcW left l ∈ l ∧ (getI left (srcW left l)).getD 0 = n ∧ ∀ k ∈ l, (getI left k).getD 0 = n → srcW left l ≤ k := by
 have key := fold_inv (fun best i => if decide (0 ≤ (getI left i).getD 0) && (decide (best < 0) || decide ((getI left i).getD 0 < (getI left best).getD 0)) then i else best)
  (fun pre best => (∃ post, l = pre ++ post) → ((best = -1 ∧ ∀ k ∈ pre, (getI left k).getD 0 < 0) ∨ (0 ≤ best ∧ best ∈ pre ∧ 0 ≤ (getI left best).getD 0 ∧ (∀ k ∈ pre, 0 ≤ (getI left k).getD 0 → (getI left best).getD 0 ≤ (getI left k).getD 0) ∧ ∀ k ∈ pre, (getI left k).getD 0 = (getI left best).getD 0 → best ≤ k))) (fun pre x b ih hp => by
  obtain ⟨post, hp⟩ := hp
  have ih := ih ⟨x :: post, by simpa using hp⟩
  have hx := hl x (by rw [hp]; simp)
  have hlt : ∀ k ∈ pre, k < x := fun k hk => by
   obtain ⟨i, hi, hix⟩ := List.mem_iff_getElem.1 hk
   refine hr i pre.length k x hi ?_ ?_
   ·rw [hp, List.append_assoc, List.getElem?_append_left hi, List.getElem?_eq_getElem hi, hix]
   ·rw [hp]; simp
  by_cases h0 : 0 ≤ (getI left x).getD 0
  ·rcases ih with ⟨h1, h2⟩ | ⟨h1, h2, h3, h4, h5⟩
   ·rw [if_pos (by simp [h0]; omega)]
    refine .inr ⟨hx, by simp, h0, fun k hk hk2 => ?_, fun k hk hk2 => ?_⟩
    ·rcases List.mem_append.1 hk with hk | hk
     ·have := h2 k hk; omega
     ·rw [List.mem_singleton.1 hk]; omega
    ·rcases List.mem_append.1 hk with hk | hk
     ·have := h2 k hk; omega
     ·rw [List.mem_singleton.1 hk]; omega
   ·by_cases hb : (getI left x).getD 0 < (getI left b).getD 0
    ·rw [if_pos (by simp [h0, hb])]
     refine .inr ⟨hx, by simp, h0, fun k hk hk2 => ?_, fun k hk hk2 => ?_⟩
     ·rcases List.mem_append.1 hk with hk | hk
      ·have := h4 k hk hk2; omega
      ·rw [List.mem_singleton.1 hk]; omega
     ·rcases List.mem_append.1 hk with hk | hk
      ·have := h4 k hk (by omega); omega
      ·rw [List.mem_singleton.1 hk]; omega
    ·rw [if_neg (by simp [hb]; omega)]
     refine .inr ⟨h1, List.mem_append_left _ h2, h3, fun k hk hk2 => ?_, fun k hk hk2 => ?_⟩
     ·rcases List.mem_append.1 hk with hk | hk
      ·exact h4 k hk hk2
      ·rw [List.mem_singleton.1 hk]; omega
     ·rcases List.mem_append.1 hk with hk | hk
      ·exact h5 k hk hk2
      ·rw [List.mem_singleton.1 hk]; have := hlt b h2; omega
  ·rw [if_neg (by simp; omega)]
   rcases ih with ⟨h1, h2⟩ | ⟨h1, h2, h3, h4, h5⟩
   ·refine .inl ⟨h1, fun k hk => ?_⟩
    rcases List.mem_append.1 hk with hk | hk
    ·exact h2 k hk
    ·rw [List.mem_singleton.1 hk]; omega
   ·refine .inr ⟨h1, List.mem_append_left _ h2, h3, fun k hk hk2 => ?_, fun k hk hk2 => ?_⟩
    ·rcases List.mem_append.1 hk with hk | hk
     ·exact h4 k hk hk2
     ·rw [List.mem_singleton.1 hk] at hk2; omega
    ·rcases List.mem_append.1 hk with hk | hk
     ·exact h5 k hk hk2
     ·rw [List.mem_singleton.1 hk] at hk2; omega) l [] (-1) (fun _ => .inl ⟨rfl, fun k hk => (by cases hk)⟩)
 rw [List.nil_append] at key
 rcases key ⟨[], by simp⟩ with ⟨_, h2⟩ | ⟨_, h2, h3, h4, h5⟩
 ·obtain ⟨k, hk, hp⟩ := he
  have := h2 k hk
  omega
 ·obtain ⟨k, hk, hp⟩ := he
  have h6 := h4 k hk (by omega)
  have h7 := hb _ h2 h3
  have h8 : (getI left (srcW left l)).getD 0 = n := by unfold srcW; omega
  refine ⟨h2, h8, fun j hj hjn => h5 j hj ?_⟩
  unfold srcW at h8
  rw [hjn, h8]
def nxtW (m : DMap) (left : List Int) (a : Int) : Int := minW (fun k => (getI left k).getD 0 == (getI left a).getD 0 - 1) (nbL m a)
def seqW (m : DMap) (left : List Int) (a : Int) : Nat → Int
 | 0 => a
 | t + 1 => nxtW m left (seqW m left a t)
def pathW (m : DMap) (left : List Int) (a : Int) (n : Nat) : List Int := (List.range (n + 1)).map (seqW m left a)
theorem getD_some {l : List Int} {k : Int} (h0 : 0 ≤ k) (h1 : k < l.length) : getI l k = some ((getI l k).getD 0) := by
 obtain ⟨x, hx⟩ := getI_ex (l := l) h0 h1
 rw [hx]
 rfl
theorem nb_area {m : DMap} {i k : Int} (h0 : 0 < m.Width) (h1 : 0 < m.Height) (hk : k ∈ nbL m i) : 0 ≤ k ∧ k < m.Width * m.Height := by
 obtain ⟨k0, d, _, rfl, _⟩ := nb_step hk
 exact ⟨k0, nextL_area h0 h1 i d⟩
structure WayOk (m : DMap) (op : List Bool) (src : List Int) (a n : Int) : Prop where
 o : MapO m op
 h : 0 < m.Height
 s : ∀ k ∈ src, 0 ≤ k ∧ k < op.length
 r : ∀ (i j : Nat) (x y : Int), i < j → src[i]? = some x → src[j]? = some y → x < y
 f : getI (spreadL m op src) a = some n
 n0 : 0 ≤ n
def w0 (m : DMap) (op : List Bool) (src : List Int) (a : Int) : Int := srcW (spreadL m op [a]) src
def wS (m : DMap) (op : List Bool) (src : List Int) (a : Int) (t : Nat) : Int := seqW m (spreadL m op [a]) (w0 m op src a) t
theorem WayOk.start {m : DMap} {op : List Bool} {src : List Int} {a n : Int} (w : WayOk m op src a n) : w0 m op src a ∈ src ∧ getI (spreadL m op [a]) (w0 m op src a) = some n ∧ ∀ k ∈ src, (getI (spreadL m op [a]) k).getD 0 = n → w0 m op src a ≤ k := by
 have hk : ∀ k ∈ src, getI (spreadL m op [a]) k = some ((getI (spreadL m op [a]) k).getD 0) := fun k hk => getD_some (w.s k hk).1 (by rw [spread_len]; exact (w.s k hk).2)
 have := srcW_ok (left := spreadL m op [a]) (l := src) (n := n) (fun k hk => (w.s k hk).1) w.r w.n0 (fun k h1 h2 => by
  have h3 := hk k h1
  have ho := far_open h3 h2
  obtain ⟨q, q1, q2, q3⟩ := far_sum w.o (far_zero (m := m) h1 ho) (by omega) h3 h2
  rw [w.f] at q1
  cases q1
  omega) (by
  obtain ⟨s, h1, h2⟩ := far_start w.o w.f w.n0
  exact ⟨s, h1, by rw [h2]; rfl⟩)
 refine ⟨this.1, ?_, this.2.2⟩
 have h1 := hk _ this.1
 rw [this.2.1] at h1
 exact h1
theorem WayOk.step {m : DMap} {op : List Bool} {src : List Int} {a n : Int} (w : WayOk m op src a n) {j : Int} {t : Nat} (ht : (t : Int) < n) (h1 : getI (spreadL m op [a]) j = some (n - t)) (h2 : getI (spreadL m op src) j = some (t : Int)) :
  nxtW m (spreadL m op [a]) j ∈ nbL m j ∧ getI (spreadL m op [a]) (nxtW m (spreadL m op [a]) j) = some (n - (t + 1 : Nat)) ∧ getI (spreadL m op src) (nxtW m (spreadL m op [a]) j) = some ((t + 1 : Nat) : Int)
   ∧ ∀ k ∈ nbL m j, (getI (spreadL m op [a]) k).getD 0 = n - (t + 1 : Nat) → nxtW m (spreadL m op [a]) j ≤ k := by
 obtain ⟨c, hc, hcv⟩ := far_next w.o h1 (by omega)
 have hm := minW_ok (p := fun k => (getI (spreadL m op [a]) k).getD 0 == (getI (spreadL m op [a]) j).getD 0 - 1) (l := nbL m j) (fun k hk => (nb_area w.o.w w.h hk).1) ⟨c, hc, by rw [hcv, h1]; simp⟩
 obtain ⟨m1, m2, m3⟩ := hm
 change nxtW m (spreadL m op [a]) j ∈ nbL m j at m1
 have ha := nb_area w.o.w w.h m1
 have hn := w.o.n
 have hv := getD_some (l := spreadL m op [a]) ha.1 (by rw [spread_len]; omega)
 have m2 : (getI (spreadL m op [a]) (nxtW m (spreadL m op [a]) j)).getD 0 = (getI (spreadL m op [a]) j).getD 0 - 1 := eq_of_beq m2
 rw [h1] at m2
 have m2 : (getI (spreadL m op [a]) (nxtW m (spreadL m op [a]) j)).getD 0 = n - (t + 1 : Nat) := by rw [m2]; simp only [Option.getD_some]; omega
 rw [m2] at hv
 have ho := far_open hv (by omega)
 obtain ⟨v, v1, v2, v3⟩ := far_edge h2 (by omega) m1 ho
 obtain ⟨q, q1, q2, q3⟩ := far_sum w.o v1 v2 hv (by omega)
 rw [w.f] at q1
 cases q1
 have : v = ((t + 1 : Nat) : Int) := by omega
 refine ⟨m1, hv, this ▸ v1, fun k hk hk2 => m3 k hk ?_⟩
 rw [h1, hk2]
 simp only [Option.getD_some, beq_iff_eq]
 omega
theorem WayOk.seq {m : DMap} {op : List Bool} {src : List Int} {a n : Int} (w : WayOk m op src a n) : ∀ t : Nat, (t : Int) ≤ n → getI (spreadL m op [a]) (wS m op src a t) = some (n - t) ∧ getI (spreadL m op src) (wS m op src a t) = some (t : Int)
 | 0, _ => by
  obtain ⟨h1, h2, _⟩ := w.start
  refine ⟨by show getI _ (w0 m op src a) = _; rw [h2]; simp, ?_⟩
  exact far_zero h1 (far_open h2 w.n0)
 | t + 1, ht => by
  obtain ⟨h1, h2⟩ := w.seq t (by omega)
  obtain ⟨_, s2, s3, _⟩ := w.step (by omega) h1 h2
  exact ⟨s2, s3⟩
theorem WayOk.nb {m : DMap} {op : List Bool} {src : List Int} {a n : Int} (w : WayOk m op src a n) {t : Nat} (ht : (t : Int) < n) : wS m op src a (t + 1) ∈ nbL m (wS m op src a t) := by
 obtain ⟨h1, h2⟩ := w.seq t (by omega)
 exact (w.step ht h1 h2).1
theorem WayOk.self {m : DMap} {op : List Bool} {src : List Int} {a n : Int} (w : WayOk m op src a n) : getI (spreadL m op [a]) a = some 0 := far_zero (by simp) (far_open w.f w.n0)
theorem WayOk.more {m : DMap} {op : List Bool} {src : List Int} {a n : Int} (w : WayOk m op src a n) {t : Nat} (ht : (t : Int) < n) : wS m op src a t ≠ a := fun h => by
 have h1 := (w.seq t (by omega)).1
 rw [h, w.self] at h1
 have := Option.some.inj h1
 omega
theorem WayOk.end_ {m : DMap} {op : List Bool} {src : List Int} {a n : Int} (w : WayOk m op src a n) : wS m op src a n.toNat = a := by
 have hn := w.n0
 have h1 := (w.seq n.toNat (by omega)).1
 rw [show n - (n.toNat : Int) = 0 by omega] at h1
 simpa using zero_src h1
def wayW (m : DMap) (op : List Bool) (src : List Int) (a n : Int) : List Int := pathW m (spreadL m op [a]) (w0 m op src a) n.toNat
theorem wayW_get {m : DMap} {op : List Bool} {src : List Int} {a n : Int} {t : Nat} (ht : t ≤ n.toNat) : (wayW m op src a n)[t]? = some (wS m op src a t) := by
 unfold wayW pathW
 rw [List.getElem?_map, List.getElem?_range (by omega)]
 rfl
theorem wayW_len (m : DMap) (op : List Bool) (src : List Int) (a n : Int) : (wayW m op src a n).length = n.toNat + 1 := by simp [wayW, pathW]
theorem WayOk.ok {m : DMap} {op : List Bool} {src : List Int} {a n : Int} (w : WayOk m op src a n) (t : Nat) : okAt m op (wayW m op src a n) t = true := by
 have hn := w.n0
 unfold okAt
 by_cases ht : t ≤ n.toNat
 ·rw [wayW_get ht]
  have h1 := (w.seq t (by omega)).1
  dsimp only
  rw [far_open h1 (by omega)]
  cases t with
  | zero => rfl
  | succ t =>
   have := w.nb (t := t) (by omega)
   have hg : (wayW m op src a n).getD t 0 = wS m op src a t := by rw [List.getD_eq_getElem?_getD, wayW_get (by omega)]; rfl
   rw [show t + 1 - 1 = t by omega, hg]
   simp [this]
 ·rw [List.getElem?_eq_none (by rw [wayW_len]; omega)]
theorem getI_setB {l : List Bool} {k i : Int} {z : Bool} (h0 : 0 ≤ k) (h1 : k < l.length) : getI (l.set k.toNat z) i = if i = k then some z else getI l i := by
 unfold getI
 by_cases hi : 0 ≤ i
 ·rw [if_pos hi, if_pos hi, List.getElem?_set]
  by_cases hik : i = k
  ·subst hik
   rw [if_pos rfl, if_pos rfl, if_pos (by omega)]
  ·rw [if_neg (by omega), if_neg hik]
 ·rw [if_neg hi, if_neg hi, if_neg (by omega)]
theorem WayOk.off {m : DMap} {op : List Bool} {src : List Int} {a n : Int} (w : WayOk m op src a n) {i : Int} (h0 : 0 ≤ i) (h1 : i < op.length) (hi : i ∉ wayW m op src a n) : ∃ v, getI (spreadL m (op.set i.toNat false) src) a = some v ∧ 0 ≤ v ∧ v ≤ n := by
 have hn := w.n0
 have hr : ∀ t : Nat, (t : Int) ≤ n → reachN m (op.set i.toNat false) src t (wS m op src a t) := by
  intro t
  have hop : ∀ t : Nat, (t : Int) ≤ n → getI (op.set i.toNat false) (wS m op src a t) = some true := fun t ht => by
   rw [getI_setB h0 h1, if_neg (fun e => hi (by rw [← e]; exact List.mem_of_getElem? (wayW_get (by omega))))]
   exact far_open (w.seq t ht).1 (by omega)
  induction t with
  | zero => exact fun ht => ⟨w.start.1, hop 0 ht⟩
  | succ t ih => exact fun ht => ⟨_, ih (by omega), w.nb (by omega), hop (t + 1) ht⟩
 have := hr n.toNat (by omega)
 rw [w.end_] at this
 obtain ⟨v, v1, v2, v3⟩ := spread_le this
 exact ⟨v, v1, v2, by omega⟩
def supB (b : DBoard) (s : DState) (k : Int) (src : List Int) : Bool := (gameB b s && inB 0 ((s.Units.length : Int) - 1) k) && srcB b src
structure SupG (b : DBoard) (s : DState) (k : Int) (src : List Int) (u : DUnit) : Prop where
 g : StateG b s
 q : srcB b src = true
 hu : getI s.Units k = some u
 m : u ∈ s.Units
theorem SupG.of {b : DBoard} {s : DState} {k : Int} {src : List Int} (h : supB b s k src = true) (hn : BoardN b) : ∃ u, SupG b s k src u := by
 unfold supB at h
 rw [Bool.and_eq_true, Bool.and_eq_true, inB_iff] at h
 obtain ⟨⟨hg, h0, h1⟩, hq⟩ := h
 obtain ⟨u, hu⟩ := getI_ex (l := s.Units) h0 (by omega)
 obtain ⟨_, _, hx, _⟩ := getI_some hu
 exact ⟨u, StateG.ofB hg hn, hq, hu, mem_of_get hx⟩
theorem getD_at {α : Type} {l : List α} {n : Nat} (d : α) (h : n < l.length) : l[n]? = some (l.getD n d) := by
 rw [List.getElem?_eq_getElem h, List.getD_eq_getElem?_getD, List.getElem?_eq_getElem h]
 rfl
theorem SpreadOk.set {m : DMap} {op : List Bool} {src : List Int} (h : SpreadOk m op src) (i : Nat) (z : Bool) : SpreadOk m (op.set i z) src :=
 ⟨by rw [List.length_set]; exact h.n, h.w, by rw [List.length_set]; exact h.l, fun k hk => by rw [List.length_set]; exact h.s k hk, h.q, h.b⟩
def forceU (b : DBoard) (u : DUnit) : Int := (kindO b u.Kind).Strength * u.Steps
theorem force_b {b : DBoard} {s : DState} (g : StateG b s) {u : DUnit} (hu : u ∈ s.Units) : 0 ≤ forceU b u ∧ forceU b u ≤ 36 := by
 have hk := kind_get g.bg (g.u u hu)
 have hs := unit_steps (g.u u hu)
 obtain ⟨n, _, hn, _⟩ := getI_some hk.1
 have hb := g.bg.kind _ (mem_of_get hn)
 unfold kindB at hb
 simp only [Bool.and_eq_true, inB_iff] at hb
 have a := Int.mul_nonneg (show 0 ≤ (kindO b u.Kind).Strength by omega) (show 0 ≤ u.Steps by omega)
 have c := Int.mul_le_mul (show (kindO b u.Kind).Strength ≤ 9 by omega) (show u.Steps ≤ 4 by omega) (by omega) (by omega)
 unfold forceU
 omega
theorem c_impl_forceOf (b : DBoard) (s : DState) (u : DUnit) (g : StateG b s) (hu : u ∈ s.Units) : A_impl_forceOf b u = some (en_impl_forceOf (forceU b u)) := by
 apply e_impl_forceOf
 have hb := force_b g hu
 have hk := kind_get g.bg (g.u u hu)
 unfold forceU at hb ⊢
 rw [ixA_get sl_cKind _ _ hk.1, wrap_id (by omega) (by omega)]
 rfl
def worthU (b : DBoard) (us : List DUnit) (src : List Int) (u : DUnit) : Int := if u.At < 0 then 0 else if 0 ≤ wayL b us src u then 3 * forceU b u else forceU b u
theorem worth_b {b : DBoard} {s : DState} (g : StateG b s) {u : DUnit} (hu : u ∈ s.Units) (src : List Int) : 0 ≤ worthU b s.Units src u ∧ worthU b s.Units src u ≤ 108 := by
 have := force_b g hu
 unfold worthU
 split
 ·omega
 ·split <;> omega
theorem c_impl_unitWorth (b : DBoard) (s : DState) (u : DUnit) (src : List Int) (g : StateG b s) (hu : u ∈ s.Units) (hs : srcB b src = true) : A_impl_unitWorth b s u src = some (en_impl_unitWorth (worthU b s.Units src u)) := by
 apply e_impl_unitWorth
 unfold worthU
 have hb := force_b g hu
 by_cases h0 : u.At < 0
 ·rw [if_pos (by simpa using h0), if_pos h0]; rfl
 ·rw [if_neg (by simpa using h0), if_neg h0, cast_of inj_impl_forceOf (c_impl_forceOf _ _ _ g hu), cast_of inj_impl_wayOf (c_impl_wayOf _ _ _ _ g hu hs)]
  by_cases hw : 0 ≤ wayL b s.Units src u
  ·rw [if_pos (by simpa using hw), if_pos hw, wrap_id (by omega) (by omega), Int.mul_comm]; rfl
  ·rw [if_neg (by simpa using hw), if_neg hw]; rfl
def sideW (b : DBoard) (s : DState) (side : Int) (src : List Int) : Int := sumI (fun k => worthU b s.Units src ((getI s.Units k).getD zU)) (ofL s.Units side)
theorem sum_b {α : Type} (p : α → Int) (B : Int) : ∀ l : List α, (∀ x ∈ l, 0 ≤ p x ∧ p x ≤ B) → 0 ≤ sumI p l ∧ sumI p l ≤ B * l.length
 | [], _ => by simp [sumI]
 | x :: r, h => by
  have := sum_b p B r fun y hy => h y (by simp [hy])
  have := h x (by simp)
  unfold sumI
  rw [List.length_cons, show B * ((r.length + 1 : Nat) : Int) = B * (r.length : Int) + B by rw [Int.natCast_add, Int.mul_add]; simp]
  omega
theorem sum_loop {γ : Type} (L : Int → Int → Option γ) (l : List Int) (p : Int → Int) (K : Int → Option γ) (hl : l.length ≤ 1000) (hp : ∀ x ∈ l, 0 ≤ p x ∧ p x ≤ 1000) (nil : ∀ a, OLe (K a) (L l.length a))
  (step : ∀ (i : Nat) x a, l[i]? = some x → (i : Int) < l.length → 0 ≤ a → a ≤ 1000000 → OLe (L ((i : Int) + 1) (a + p x)) (L i a)) : OLe (K (sumI p l)) (L 0 0) := by
 have := fold_loop L l (fun _ a x => a + p x) (fun i a => 0 ≤ a ∧ a ≤ 1000 * i) K (fun a _ => nil a) (fun i x a hx hi ha => by
  have hx2 := hp x (mem_of_get hx)
  exact ⟨by omega, step i x a hx hi ha.1 (by omega)⟩) 0 (by simp)
 rw [foldN_sum, Int.zero_add] at this
 exact this
theorem unit_in {b : DBoard} {s : DState} {side : Int} (src : List Int) (g : StateG b s) : ∀ x ∈ ofL s.Units side, 0 ≤ worthU b s.Units src ((getI s.Units x).getD zU) ∧ worthU b s.Units src ((getI s.Units x).getD zU) ≤ 1000 := fun x hx => by
 obtain ⟨n, u, _, _, _, hm, hd, _⟩ := unit_of hx
 rw [hd]
 have := worth_b g hm src
 omega
theorem c_impl_sideWorth (b : DBoard) (s : DState) (side : Int) (src : List Int) (g : StateG b s) (hs : srcB b src = true) : A_impl_sideWorth b s side src = some (en_impl_sideWorth (sideW b s side src)) := by
 apply e_impl_sideWorth
 unfold sideW
 have hl := g.len
 have hol := of_len s.Units side
 rw [cast_of inj_impl_unitsOf (c_impl_unitsOf _ _ (by omega))]
 refine sum_loop (fun i a => L_impl_sideWorth_L3 b s src a (ofL s.Units side) (ofL s.Units side).length i) (ofL s.Units side) _ (fun a => some (en_impl_sideWorth a)) (by omega) (unit_in src g) ?_ (fun i x a hx hi h0 h1 => ?_) _ rfl
 ·intro a r hr
  apply e_impl_sideWorth_L3
  rw [if_neg (by simp)]
  exact hr
 ·intro r hr
  apply e_impl_sideWorth_L3
  obtain ⟨n, u, e, hnl, hu, hm, hd, _⟩ := unit_of (mem_of_get hx)
  have hw := worth_b g hm src
  rw [hd] at hr
  rw [if_pos (by simpa using hi), ixA_at sl_cI rfl hx, ixA_get sl_cUnit _ _ hu, cast_of inj_impl_unitWorth (c_impl_unitWorth _ _ _ _ g hm hs), wrap_id (n := a + worthU b s.Units src u) (by omega) (by omega), wrap_id (n := (i : Int) + 1) (by omega) (by omega)]
  exact hr
theorem c_spec_uWorth (b : DBoard) (s : DState) (k : Int) (src : List Int) (g : StateG b s) {u : DUnit} (hk : getI s.Units k = some u) (hu : u ∈ s.Units) : A_spec_uWorth b s k (decide (0 ≤ wayL b s.Units src u)) = some (en_spec_uWorth (worthU b s.Units src u)) := by
 apply e_spec_uWorth
 unfold worthU
 have hb := force_b g hu
 have hkd := kind_get g.bg (g.u u hu)
 rw [ixA_get sl_cUnit _ _ hk]
 by_cases h0 : u.At < 0
 ·rw [if_pos (by simpa using h0), if_pos h0]; rfl
 ·unfold forceU at hb ⊢
  rw [if_neg (by simpa using h0), if_neg h0, ixA_get sl_cKind _ _ hkd.1, wrap_id (n := (kindO b u.Kind).Strength * u.Steps) (by omega) (by omega)]
  by_cases hw : 0 ≤ wayL b s.Units src u
  ·rw [if_pos (by simpa using hw), if_pos hw, wrap_id (by omega) (by omega)]; rfl
  ·rw [if_neg (by simpa using hw), if_neg hw]; rfl
theorem c_spec_uSide (b : DBoard) (s : DState) (side : Int) (src : List Int) (g : StateG b s) (hs : srcB b src = true) : A_spec_uSide b s side src = some (en_spec_uSide (sideW b s side src)) := by
 apply e_spec_uSide
 unfold sideW
 have hl := g.len
 have hol := of_len s.Units side
 rw [cast_of inj_spec_sOf (c_spec_sOf _ _ (by omega))]
 refine sum_loop (fun i a => L_spec_uSide_L3 (ofL s.Units side) b s src a (ofL s.Units side).length i) (ofL s.Units side) _ (fun a => some (en_spec_uSide a)) (by omega) (unit_in src g) ?_ (fun i x a hx hi h0 h1 => ?_) _ rfl
 ·intro a r hr
  apply e_spec_uSide_L3
  rw [if_neg (by simp)]
  exact hr
 ·intro r hr
  apply e_spec_uSide_L3
  obtain ⟨n, u, e, hnl, hu, hm, hd, _⟩ := unit_of (mem_of_get hx)
  have hw := worth_b g hm src
  rw [hd] at hr
  rw [if_pos (by simpa using hi), oxA_at rt_cI rfl (by omega)]
  refine (ld_at (E := tI) rfl rfl ok_cI (fun _ => rfl) (l := ofL s.Units side) rfl rfl hx _).trans ?_
  rw [cast_of inj_spec_jIn (c_spec_jIn _ _ _ _ g hu hm hs), cast_of inj_spec_uWorth (c_spec_uWorth _ _ _ src g hu hm), wrap_id (n := a + worthU b s.Units src u) (by omega) (by omega), wrap_id (n := (i : Int) + 1) (by omega) (by omega)]
  exact hr
theorem c_impl_isLook (b : DBoard) (s : DState) (side : Int) (hn : BoardN b) (hs : s.Units.length < 1000000000000) : A_impl_isLook b s side = some (en_impl_isLook (gameB b s && inB 0 1 side)) := by
 apply e_impl_isLook
 rw [cast_of inj_impl_fits (c_impl_fits _ _ hn hs)]
 cases gameB b s with
 | false => rfl
 | true => rw [if_pos rfl, cast_of inj_impl_isSide (c_impl_isSide _)]; rfl
theorem c_spec_fgSide (b : DBoard) (s : DState) (side : Int) (hn : BoardN b) (hs : s.Units.length < 1000000000000) : A_spec_fgSide b s side = some (en_spec_fgSide (gameB b s && inB 0 1 side)) := by
 apply e_spec_fgSide
 rw [cast_of inj_spec_sGood (c_spec_sGood _ _ hn hs), show (boardB b && stateB b s) = gameB b s from rfl]
 cases gameB b s with
 | false => rfl
 | true => rw [if_pos rfl, kk_spec_l1In]; rfl
theorem side_b {b : DBoard} {s : DState} (src : List Int) (side : Int) (g : StateG b s) : 0 ≤ sideW b s side src := (sum_b _ 1000 _ (unit_in src g)).1
structure TableN (t : DCombatTable) : Prop where
 c : t.Columns.length < 1000000
 r : t.Results.length < 1000000
 l : ∀ r ∈ t.Results, r.length < 1000000
structure SetupN (x : DSetup) : Prop where
 b : BoardN x.Board
 t : TableN x.Table
 w : x.Climate.Weights.length < 1000000
 wl : ∀ r ∈ x.Climate.Weights, r.length < 1000000
 s : ∀ l ∈ x.Sources, l.length ≤ 20
 sl : x.Sources.length ≤ 2
def zO : DOdds := ⟨0, 0⟩
def oddP (cs : List DOdds) (i : Nat) (o : DOdds) : Bool := inB 1 20 o.Num && (inB 1 20 o.Den && (i == 0 || !decide (IntKind.wrap .i64 (o.Num * (cs.getD (i - 1) zO).Den) ≤ IntKind.wrap .i64 ((cs.getD (i - 1) zO).Num * o.Den))))
def rowP (n : Nat) (r : List Int) : Bool := ((r.length : Int) == (n : Int)) && r.all (inB 0 7)
def tableB (t : DCombatTable) : Bool := inB 1 8 t.Columns.length && (inB 1 2 t.Dice && (((t.Results.length : Int) == IntKind.wrap .i64 (IntKind.wrap .i64 (5 * t.Dice) + 1)) && (alli (oddP t.Columns) 0 t.Columns && t.Results.all (rowP t.Columns.length))))
theorem c_impl_isResult (n : Int) : A_impl_isResult n = some (en_impl_isResult (inB 0 7 n)) := by
 apply e_impl_isResult
 rw [kk_impl_inRange]
 rfl
theorem c_impl_IsCombatTable_1 (n : Int) : A_impl_IsCombatTable_1 n = some (en_impl_IsCombatTable_1 (!inB 0 7 n)) := by
 apply e_impl_IsCombatTable_1
 rw [cast_of inj_impl_isResult (c_impl_isResult _)]
 rfl
theorem c_xf_impl_IsCombatTable_1 (l : List Int) (hl : l.length < 1000000000000) : A_xf_impl_IsCombatTable_1 l = some (en_xf_impl_IsCombatTable_1 (findI (fun x => !inB 0 7 x) l)) := by
 apply e_xf_impl_IsCombatTable_1
 refine idx_loop (fun i => L_xf_impl_IsCombatTable_1_L2 l l.length i) l _ (fun i => some (en_xf_impl_IsCombatTable_1 i)) ?_ (fun i x hx hi => ?_) _ rfl
 ·intro _ h; apply e_xf_impl_IsCombatTable_1_L2
  rw [← h]; simp [en_xf_impl_IsCombatTable_1]
 ·intro _ h; apply e_xf_impl_IsCombatTable_1_L2
  rw [if_pos (by simpa using hi), ixA_at sl_cI rfl hx, cast_of inj_impl_IsCombatTable_1 (c_impl_IsCombatTable_1 _), wrap_id (by omega) (by omega)]
  exact h
theorem c_cf_impl_IsCombatTable_1 (l : List Int) (hl : l.length < 1000000000000) : A_cf_impl_IsCombatTable_1 l = some (en_cf_impl_IsCombatTable_1 (!l.all (inB 0 7))) := by
 apply e_cf_impl_IsCombatTable_1
 rw [cast_of inj_xf_impl_IsCombatTable_1 (c_xf_impl_IsCombatTable_1 _ hl), findI_any, any_not]
 rfl
theorem c_impl_IsCombatTable (t : DCombatTable) (hn : TableN t) : A_impl_IsCombatTable t = some (en_impl_IsCombatTable (tableB t)) := by
 apply e_impl_IsCombatTable
 unfold tableB
 have hc := hn.c
 have hr := hn.r
 rw [kk_impl_inRange]
 cases inB 1 8 (t.Columns.length : Int) with
 | false => rfl
 | true =>
  rw [if_neg (by simp), kk_impl_inRange]
  cases inB 1 2 t.Dice with
  | false => rfl
  | true =>
   rw [if_neg (by simp)]
   cases hd : ((t.Results.length : Int) == IntKind.wrap .i64 (IntKind.wrap .i64 (5 * t.Dice) + 1)) with
   | false => rw [if_pos (by rw [bne, hd]; rfl)]; rfl
   | true =>
    rw [if_neg (by rw [bne, hd]; simp), Bool.true_and, Bool.true_and, Bool.true_and]
    have h12 : OLe (if t.Results.all (rowP t.Columns.length) then some (en_impl_IsCombatTable true) else some (en_impl_IsCombatTable false)) (L_impl_IsCombatTable_L12 t t.Results t.Results.length 0) := by
     refine all_loop (fun i => L_impl_IsCombatTable_L12 t t.Results t.Results.length i) t.Results _ _ _ ?_ (fun i r hr hi => ?_)
     ·intro _ h; apply e_impl_IsCombatTable_L12
      rw [if_neg (by simp)]
      exact h
     ·intro _ h; apply e_impl_IsCombatTable_L12
      have hl := hn.l r (mem_of_get hr)
      unfold rowP at h
      rw [if_pos (by simpa using hi), ixA_at sl_cLI rfl hr]
      cases he : ((r.length : Int) == (t.Columns.length : Int)) with
      | false => rw [he] at h; rw [if_pos (by rw [bne, he]; rfl)]; exact h
      | true =>
       rw [he] at h
       rw [if_neg (by rw [bne, he]; simp), cast_of inj_cf_impl_IsCombatTable_1 (c_cf_impl_IsCombatTable_1 _ (by omega)), wrap_id (by omega) (by omega)]
       cases hall : r.all (inB 0 7) with
       | false => rw [hall] at h; exact h
       | true => rw [hall] at h; exact h
    have h4 : OLe (if alli (oddP t.Columns) 0 t.Columns then L_impl_IsCombatTable_L12 t t.Results t.Results.length 0 else some (en_impl_IsCombatTable false)) (L_impl_IsCombatTable_L4 t t.Columns t.Columns.length 0) := by
     refine alli_loop (fun i => L_impl_IsCombatTable_L4 t t.Columns t.Columns.length i) t.Columns _ _ _ ?_ (fun i o ho hi => ?_)
     ·intro _ h; apply e_impl_IsCombatTable_L4
      rw [if_neg (by simp)]
      exact h
     ·intro _ h; apply e_impl_IsCombatTable_L4
      unfold oddP at h
      rw [if_pos (by simpa using hi), ixA_at sl_cOdds rfl ho, kk_impl_inRange]
      cases h1 : inB 1 20 o.Num with
      | false => rw [h1] at h; exact h
      | true =>
       rw [h1] at h
       rw [if_neg (by simp), kk_impl_inRange]
       cases h2 : inB 1 20 o.Den with
       | false => rw [h2] at h; exact h
       | true =>
        rw [h2] at h
        rw [if_neg (by simp), wrap_id (n := (i : Int) + 1) (by omega) (by omega)]
        by_cases h0 : i = 0
        ·subst h0
         rw [if_neg (by simp)]
         simpa using h
        ·have hp : t.Columns[i - 1]? = some (t.Columns.getD (i - 1) zO) := getD_at zO (by omega)
         rw [if_pos (by rw [decide_eq_true_eq]; omega), wrap_id (n := (i : Int) - 1) (by omega) (by omega), ixA_at sl_cOdds (n := i - 1) (by omega) hp, ixA_at sl_cOdds (n := i - 1) (by omega) hp]
         have e0 : (i == 0) = false := by simpa using h0
         rw [e0] at h
         simp only [Bool.true_and, Bool.false_or] at h
         cases hd2 : decide (IntKind.wrap .i64 (o.Num * (t.Columns.getD (i - 1) zO).Den) ≤ IntKind.wrap .i64 ((t.Columns.getD (i - 1) zO).Num * o.Den)) with
         | false => rw [hd2] at h; rw [if_neg (by simp)]; exact h
         | true => rw [hd2] at h; rw [if_pos rfl]; exact h
    refine h4 _ ?_
    cases alli (oddP t.Columns) 0 t.Columns with
    | false => rfl
    | true =>
     rw [if_pos rfl]
     refine h12 _ ?_
     cases t.Results.all (rowP t.Columns.length) <;> rfl
theorem c_spec_kGood (t : DCombatTable) (hn : TableN t) : A_spec_kGood t = some (en_spec_kGood (tableB t)) := by
 apply e_spec_kGood
 unfold tableB
 have hc := hn.c
 have hr := hn.r
 have hk : A_spec_kRows t.Dice = some (en_spec_kRows (IntKind.wrap .i64 (IntKind.wrap .i64 (5 * t.Dice) + 1))) := by apply e_spec_kRows; rfl
 rw [kk_spec_l1In]
 cases inB 1 8 (t.Columns.length : Int) with
 | false => rfl
 | true =>
  rw [if_neg (by simp), kk_spec_l1In]
  cases inB 1 2 t.Dice with
  | false => rfl
  | true =>
   rw [if_neg (by simp), cast_of inj_spec_kRows hk]
   cases hd : ((t.Results.length : Int) == IntKind.wrap .i64 (IntKind.wrap .i64 (5 * t.Dice) + 1)) with
   | false => rw [if_pos (by rw [bne, hd]; rfl)]; rfl
   | true =>
    rw [if_neg (by rw [bne, hd]; simp), Bool.true_and, Bool.true_and, Bool.true_and]
    have h12 : OLe (if t.Results.all (rowP t.Columns.length) then some (en_spec_kGood true) else some (en_spec_kGood false)) (L_spec_kGood_L12 t t.Results t.Results.length 0) := by
     refine all_loop (fun i => L_spec_kGood_L12 t t.Results t.Results.length i) t.Results _ _ _ ?_ (fun i r hr hi => ?_)
     ·intro _ h; apply e_spec_kGood_L12
      rw [if_neg (by simp)]
      exact h
     ·intro _ h; apply e_spec_kGood_L12
      have hl := hn.l r (mem_of_get hr)
      unfold rowP at h
      rw [if_pos (by simpa using hi), ixA_at sl_cLI rfl hr]
      cases he : ((r.length : Int) == (t.Columns.length : Int)) with
      | false => rw [he] at h; rw [if_pos (by rw [bne, he]; rfl)]; exact h
      | true =>
       rw [he] at h
       rw [if_neg (by rw [bne, he]; simp), cast_of inj_spec_l1All (c_spec_l1All _ _ _ (by omega)), wrap_id (by omega) (by omega)]
       cases hall : r.all (inB 0 7) with
       | false => rw [hall] at h; exact h
       | true => rw [hall] at h; exact h
    have h4 : OLe (if alli (oddP t.Columns) 0 t.Columns then L_spec_kGood_L12 t t.Results t.Results.length 0 else some (en_spec_kGood false)) (L_spec_kGood_L4 t t.Columns t.Columns.length 0) := by
     refine alli_loop (fun i => L_spec_kGood_L4 t t.Columns t.Columns.length i) t.Columns _ _ _ ?_ (fun i o ho hi => ?_)
     ·intro _ h; apply e_spec_kGood_L4
      rw [if_neg (by simp)]
      exact h
     ·intro _ h; apply e_spec_kGood_L4
      unfold oddP at h
      rw [if_pos (by simpa using hi), ixA_at sl_cOdds rfl ho, kk_spec_l1In]
      cases h1 : inB 1 20 o.Num with
      | false => rw [h1] at h; exact h
      | true =>
       rw [h1] at h
       rw [if_neg (by simp), kk_spec_l1In]
       cases h2 : inB 1 20 o.Den with
       | false => rw [h2] at h; exact h
       | true =>
        rw [h2] at h
        rw [if_neg (by simp), wrap_id (n := (i : Int) + 1) (by omega) (by omega)]
        by_cases h0 : i = 0
        ·subst h0
         rw [if_neg (by simp)]
         simpa using h
        ·have hp : t.Columns[i - 1]? = some (t.Columns.getD (i - 1) zO) := getD_at zO (by omega)
         rw [if_pos (by rw [decide_eq_true_eq]; omega), wrap_id (n := (i : Int) - 1) (by omega) (by omega), ixA_at sl_cOdds (n := i - 1) (by omega) hp, ixA_at sl_cOdds (n := i - 1) (by omega) hp]
         have e0 : (i == 0) = false := by simpa using h0
         rw [e0] at h
         simp only [Bool.true_and, Bool.false_or] at h
         cases hd2 : decide (IntKind.wrap .i64 (o.Num * (t.Columns.getD (i - 1) zO).Den) ≤ IntKind.wrap .i64 ((t.Columns.getD (i - 1) zO).Num * o.Den)) with
         | false => rw [hd2] at h; rw [if_neg (by simp)]; exact h
         | true => rw [hd2] at h; rw [if_pos rfl]; exact h
    refine h4 _ ?_
    cases alli (oddP t.Columns) 0 t.Columns with
    | false => rfl
    | true =>
     rw [if_pos rfl]
     refine h12 _ ?_
     cases t.Results.all (rowP t.Columns.length) <;> rfl
def wSum (l : List Int) : Int := l.foldl (fun a x => IntKind.wrap .i64 (a + x)) 0
theorem c_impl_sumOf (l : List Int) (hl : l.length < 1000000) : A_impl_sumOf l = some (en_impl_sumOf (wSum l)) := by
 apply e_impl_sumOf
 unfold wSum
 rw [← foldN_const _ l 0]
 refine fold_loop (fun i (a : Int) => L_impl_sumOf_L3 a l l.length i) l (fun _ a x => IntKind.wrap .i64 (a + x)) (fun _ _ => True) (fun a => some (en_impl_sumOf a)) ?_ ?_ 0 trivial _ rfl
 ·intro a _ r hr
  apply e_impl_sumOf_L3
  rw [if_neg (by simp)]
  exact hr
 ·intro i x a hx hi _
  refine ⟨trivial, ?_⟩
  intro r hr
  apply e_impl_sumOf_L3
  rw [if_pos (by simpa using hi), ixA_at sl_cI rfl hx, wrap_id (n := (i : Int) + 1) (by omega) (by omega)]
  exact hr
def wP (r : List Int) : Bool := ((r.length : Int) == 3) && (r.all (inB 0 36) && (wSum r == 36))
def climB (c : DClimate) : Bool := ((c.Weights.length : Int) == 3) && c.Weights.all wP
theorem three {r : List Int} (h : ((r.length : Int) == 3) = true) : ∃ a b c, r = [a, b, c] := by
 rw [beq_iff_eq] at h
 match r, h with
 | [a, b, c], _ => exact ⟨a, b, c, rfl⟩
 | [], h => simp at h
 | [_], h => simp at h
 | [_, _], h => simp at h
 | _ :: _ :: _ :: _ :: _, h => simp at h; omega
theorem c_impl_IsClimate (c : DClimate) (hw : c.Weights.length < 1000000) (hl : ∀ r ∈ c.Weights, r.length < 1000000) : A_impl_IsClimate c = some (en_impl_IsClimate (climB c)) := by
 apply e_impl_IsClimate
 unfold climB
 cases h3 : ((c.Weights.length : Int) == 3) with
 | false => rw [if_pos (by rw [bne, h3]; rfl)]; rfl
 | true =>
  rw [if_neg (by rw [bne, h3]; simp), Bool.true_and]
  refine (all_loop (fun i => L_impl_IsClimate_L4 c.Weights c.Weights.length i) c.Weights wP (some (en_impl_IsClimate true)) (some (en_impl_IsClimate false)) ?_ (fun i r hr hi => ?_)) _ (by cases c.Weights.all wP <;> rfl)
  ·intro _ h; apply e_impl_IsClimate_L4
   rw [if_neg (by simp)]
   exact h
  ·intro _ h; apply e_impl_IsClimate_L4
   have hrl := hl r (mem_of_get hr)
   unfold wP at h
   rw [if_pos (by simpa using hi), ixA_at sl_cLI rfl hr]
   cases he : ((r.length : Int) == 3) with
   | false => rw [he] at h; rw [if_pos (by rw [bne, he]; rfl)]; exact h
   | true =>
    rw [he] at h
    rw [if_neg (by rw [bne, he]; simp), cast_of inj_impl_sumOf (c_impl_sumOf _ hrl)]
    cases hs : (wSum r == 36) with
    | false =>
     rw [hs] at h
     rw [if_pos (by rw [bne, hs]; rfl)]
     simp only [Bool.and_false, Bool.false_eq_true, if_false] at h
     exact h
    | true =>
     rw [hs] at h
     rw [if_neg (by rw [bne, hs]; simp)]
     refine (all_loop (fun j => L_impl_IsClimate_L9 c.Weights c.Weights.length i r r.length j) r (inB 0 36) (L_impl_IsClimate_L4 c.Weights c.Weights.length ((i : Int) + 1)) (some (en_impl_IsClimate false)) ?_ (fun j y hy hj => ?_)) _ (by simpa using h)
     ·intro _ h; apply e_impl_IsClimate_L9
      rw [if_neg (by simp), wrap_id (by omega) (by omega)]
      exact h
     ·intro _ h; apply e_impl_IsClimate_L9
      rw [if_pos (by simpa using hj), ixA_at sl_cI rfl hy, kk_impl_inRange, wrap_id (n := (j : Int) + 1) (by omega) (by omega)]
      cases hb : inB 0 36 y with
      | false => rw [hb] at h; exact h
      | true => rw [hb] at h; exact h
theorem c_spec_wGood (c : DClimate) (hw : c.Weights.length < 1000000) (hl : ∀ r ∈ c.Weights, r.length < 1000000) : A_spec_wGood c = some (en_spec_wGood (climB c)) := by
 apply e_spec_wGood
 unfold climB
 cases h3 : ((c.Weights.length : Int) == 3) with
 | false => rw [if_pos (by rw [bne, h3]; rfl)]; rfl
 | true =>
  rw [if_neg (by rw [bne, h3]; simp), Bool.true_and]
  refine (all_loop (fun i => L_spec_wGood_L4 c.Weights c.Weights.length i) c.Weights wP (some (en_spec_wGood true)) (some (en_spec_wGood false)) ?_ (fun i r hr hi => ?_)) _ (by cases c.Weights.all wP <;> rfl)
  ·intro _ h; apply e_spec_wGood_L4
   rw [if_neg (by simp)]
   exact h
  ·intro _ h; apply e_spec_wGood_L4
   have hrl := hl r (mem_of_get hr)
   unfold wP at h
   rw [if_pos (by simpa using hi), ixA_at sl_cLI rfl hr]
   cases he : ((r.length : Int) == 3) with
   | false => rw [he] at h; rw [if_pos (by rw [bne, he]; rfl)]; exact h
   | true =>
    rw [he] at h
    rw [if_neg (by rw [bne, he]; simp), cast_of inj_spec_l1All (c_spec_l1All _ _ _ (by omega))]
    cases ha : r.all (inB 0 36) with
    | false => rw [ha] at h; rw [if_pos (by simp)]; exact h
    | true =>
     rw [ha] at h
     obtain ⟨x, y, z, rfl⟩ := three he
     have hb : 0 ≤ x ∧ x ≤ 36 ∧ 0 ≤ y ∧ y ≤ 36 ∧ 0 ≤ z ∧ z ≤ 36 := by
      simp only [List.all_cons, List.all_nil, Bool.and_true, Bool.and_eq_true, inB_iff] at ha
      omega
     have hs : wSum [x, y, z] = x + y + z := by
      unfold wSum
      simp only [List.foldl_cons, List.foldl_nil, Int.zero_add]
      rw [wrap_id (n := x) (by omega) (by omega), wrap_id (n := x + y) (by omega) (by omega), wrap_id (by omega) (by omega)]
     rw [hs] at h
     rw [if_neg (by simp), ixA_get sl_cI [x, y, z] 0 (x := x) rfl, ixA_get sl_cI [x, y, z] 1 (x := y) rfl, ixA_get sl_cI [x, y, z] 2 (x := z) rfl, wrap_id (n := x + y) (by omega) (by omega), wrap_id (n := x + y + z) (by omega) (by omega), wrap_id (n := (i : Int) + 1) (by omega) (by omega)]
     cases hd : (x + y + z == 36) with
     | false => rw [hd] at h; rw [if_pos (by rw [bne, hd]; rfl)]; exact h
     | true => rw [hd] at h; rw [if_neg (by rw [bne, hd]; simp)]; exact h
def srcAt (x : DSetup) (k : Nat) : List Int := x.Sources.getD k []
def setupB (x : DSetup) : Bool := boardB x.Board && (tableB x.Table && (climB x.Climate && (((x.Sources.length : Int) == 2) && (srcB x.Board (srcAt x 0) && srcB x.Board (srcAt x 1)))))
theorem c_impl_IsSetup (x : DSetup) (hn : SetupN x) : A_impl_IsSetup x = some (en_impl_IsSetup (setupB x)) := by
 apply e_impl_IsSetup
 unfold setupB
 rw [cast_of inj_impl_IsBoard (c_impl_IsBoard _ hn.b)]
 cases boardB x.Board with
 | false => rfl
 | true =>
  rw [if_neg (by simp), cast_of inj_impl_IsCombatTable (c_impl_IsCombatTable _ hn.t)]
  cases tableB x.Table with
  | false => rfl
  | true =>
   rw [if_neg (by simp), cast_of inj_impl_IsClimate (c_impl_IsClimate _ hn.w hn.wl)]
   cases climB x.Climate with
   | false => rfl
   | true =>
    rw [if_neg (by simp)]
    cases h2 : ((x.Sources.length : Int) == 2) with
    | false => rw [if_pos (by rw [bne, h2]; rfl)]; rfl
    | true =>
     have hl : x.Sources.length = 2 := by rw [beq_iff_eq] at h2; omega
     have g0 : getI x.Sources 0 = some (srcAt x 0) := getD_at (l := x.Sources) (n := 0) [] (by omega)
     have g1 : getI x.Sources 1 = some (srcAt x 1) := getD_at (l := x.Sources) (n := 1) [] (by omega)
     rw [if_neg (by rw [bne, h2]; simp), ixA_get sl_cLI _ _ g0, cast_of inj_impl_areSources (c_impl_areSources _ _ hn.b)]
     cases srcB x.Board (srcAt x 0) with
     | false => rfl
     | true =>
      rw [if_pos rfl, ixA_get sl_cLI _ _ g1, cast_of inj_impl_areSources (c_impl_areSources _ _ hn.b)]
      rfl
theorem c_spec_tGood (x : DSetup) (hn : SetupN x) : A_spec_tGood x = some (en_spec_tGood (setupB x)) := by
 apply e_spec_tGood
 unfold setupB
 rw [cast_of inj_spec_bGood (c_spec_bGood _ hn.b)]
 cases hb : boardB x.Board with
 | false => rfl
 | true =>
  have g := BoardG.of hb
  rw [if_pos rfl, cast_of inj_spec_kGood (c_spec_kGood _ hn.t)]
  cases tableB x.Table with
  | false => rfl
  | true =>
   rw [if_pos rfl, cast_of inj_spec_wGood (c_spec_wGood _ hn.w hn.wl)]
   cases climB x.Climate with
   | false => rfl
   | true =>
    rw [if_pos rfl]
    cases h2 : ((x.Sources.length : Int) == 2) with
    | false => rfl
    | true =>
     have hl : x.Sources.length = 2 := by rw [beq_iff_eq] at h2; omega
     have g0 : getI x.Sources 0 = some (srcAt x 0) := getD_at (l := x.Sources) (n := 0) [] (by omega)
     have g1 : getI x.Sources 1 = some (srcAt x 1) := getD_at (l := x.Sources) (n := 1) [] (by omega)
     rw [if_pos rfl, ixA_get sl_cLI _ _ g0, cast_of inj_spec_jSources (c_spec_jSources _ _ g)]
     cases srcB x.Board (srcAt x 0) with
     | false => rfl
     | true =>
      rw [if_pos rfl, ixA_get sl_cLI _ _ g1, cast_of inj_spec_jSources (c_spec_jSources _ _ g)]
      rfl
def gameX (x : DSetup) (s : DState) : Bool := setupB x && stateB x.Board s
theorem c_impl_isGame (x : DSetup) (s : DState) (hn : SetupN x) (hs : s.Units.length < 1000000000000) : A_impl_isGame x s = some (en_impl_isGame (gameX x s)) := by
 apply e_impl_isGame
 unfold gameX
 rw [cast_of inj_impl_IsSetup (c_impl_IsSetup _ hn)]
 cases hx : setupB x with
 | false => rfl
 | true =>
  have hb : boardB x.Board = true := by unfold setupB at hx; rw [Bool.and_eq_true] at hx; exact hx.1
  rw [if_pos rfl, cast_of inj_impl_goodState (c_impl_goodState _ _ (BoardG.of hb) hs)]
  rfl
theorem c_spec_tAsked (x : DSetup) (s : DState) (hn : SetupN x) (hs : s.Units.length < 1000000000000) : A_spec_tAsked x s 0 = some (en_spec_tAsked (gameX x s)) := by
 have h0 : A_spec_dSeed 0 = some (en_spec_dSeed true) := by
  apply e_spec_dSeed
  rw [kk_spec_l1In]
  rfl
 apply e_spec_tAsked
 unfold gameX
 rw [cast_of inj_spec_tGood (c_spec_tGood _ hn)]
 cases hx : setupB x with
 | false => rfl
 | true =>
  have hb : boardB x.Board = true := by unfold setupB at hx; rw [Bool.and_eq_true] at hx; exact hx.1
  rw [if_pos rfl, cast_of inj_spec_sGood (c_spec_sGood _ _ hn.b hs), hb, Bool.true_and]
  cases stateB x.Board s with
  | false => rfl
  | true =>
   rw [if_pos rfl, cast_of inj_spec_dSeed h0]
   rfl
structure GameG (x : DSetup) (s : DState) (side : Int) : Prop where
 g : StateG x.Board s
 q : srcB x.Board (srcAt x side.toNat) = true
 a : getI x.Sources side = some (srcAt x side.toNat)
theorem GameG.of {x : DSetup} {s : DState} {side : Int} (hn : SetupN x) (h : gameX x s = true) (hs : inB 0 1 side = true) : GameG x s side := by
 unfold gameX setupB at h
 simp only [Bool.and_eq_true, beq_iff_eq] at h
 obtain ⟨⟨hb, _, _, h2, hq0, hq1⟩, hst⟩ := h
 rw [inB_iff] at hs
 have hl : x.Sources.length = 2 := by omega
 have hc : side = 0 ∨ side = 1 := by omega
 refine ⟨StateG.of hb hn.b.m hst, ?_, ?_⟩
 ·rcases hc with e | e <;> subst e
  ·exact hq0
  ·exact hq1
 ·rcases hc with e | e <;> subst e
  ·exact getD_at (l := x.Sources) (n := 0) [] (by omega)
  ·exact getD_at (l := x.Sources) (n := 1) [] (by omega)
theorem giveUp_at {α : Type} {σ : Store} {c : α → List AV} {e : Nat} (h : COk c e) {id : Id} {fr : Bool} {l : List α} {cap : Nat} (hb : σ.get? id = some (rowB fr false e c l)) : giveUp σ (.own id none 0 l.length cap) = some (slc c l) := by
 have := giveN h (n := l.length) (cap := cap) (Nat.le_refl _) hb
 rwa [List.take_length] at this
theorem frz_LI (l : List (List Int)) : (l.flatMap cLIN).map frz = l.flatMap cLI := by
 induction l with
 | nil => rfl
 | cons a r ih =>
  rw [List.flatMap_cons, List.map_append, ih, List.flatMap_cons]
  rfl
theorem giveLL {σ : Store} {id : Id} {fr : Bool} {l : List (List Int)} {d n cap : Nat} (hn : n = l.length - d) (hd : d ≤ l.length) (hb : σ.get? id = some (rowB fr true 1 cLIN l)) : giveUp σ (.own id none (d * 1) n cap) = some (slc cLI (l.drop d)) := by
 simp only [giveUp, rowOf, hb, rowB, if_true]
 unfold takeAt
 rw [if_pos (by rw [flat_len ok_cLIN.len]; omega)]
 simp only [Option.map_some, Option.isNone_none, Option.getD_some, and_self, if_true]
 rw [flat_drop ok_cLIN.len, flat_take ok_cLIN.len, frz_LI]
 unfold slc
 rw [List.take_of_length_le (by rw [List.length_drop]; omega), List.length_drop, hn]
theorem giveLL0 {σ : Store} {id : Id} {fr : Bool} {l : List (List Int)} {n cap : Nat} (hn : n = l.length) (hb : σ.get? id = some (rowB fr true 1 cLIN l)) : giveUp σ (.own id none 0 n cap) = some (slc cLI l) := by
 have := giveLL (d := 0) (n := n) (cap := cap) (by omega) (Nat.zero_le _) hb
 simpa using this
theorem cLIN_row (t : List Int) : (cLIN t)[0]? = some (.nst 1 t.length (t.flatMap cI)) := rfl
theorem slN_lo {α β γ : Type} {P : Program} {σ : Store} {ty : TypeId} {c : α → List AV} {c' : β → List AV} {e by_ : Nat} (h : RowT P ty c' e by_) {id : Id} {fr nest : Bool} {l : List α} (hb : σ.get? id = some (rowB fr nest e c l)) {n cap : Nat} {i : Int} {j : Nat} (hi : i = j) (hj : j ≤ n) (k : Nat × Nat × Nat → Option γ) :
  cast (fun a : Nat × Nat × Nat => AV.own id none (a.1 * e) a.2.1 a.2.2) (evSlice P σ ty (.own id none 0 n cap) (some (.sc (.int .i64 i))) none none) k = k (j, n - j, cap - j) := by
 obtain ⟨et, z, h1, h2, _⟩ := h.ex
 refine cast_of (fun a b he => ?_) ?_ k
 ·injection he with _ _ h5 h3 h4
  exact Prod.ext (Nat.eq_of_mul_eq_mul_right h.pos h5) (Prod.ext h3 h4)
 ·subst hi
  have hr : rowOf σ id none = some (l.flatMap c, e) := by simp only [rowOf, hb, rowB, if_true]
  unfold evSlice
  simp only [h1, h2, hr, if_true]
  simp only [evBounds, bMax, bHi, bLo, bound, Option.bind_some, Option.isNone_none, if_true]
  rw [if_pos ⟨by omega, by omega⟩]
  simp
theorem ld_sub {γ : Type} {G : Cfg} {σ : Store} {id : Id} {fr : Bool} {l : List (List Int)} (hb : σ.get? id = some (rowB fr true 1 cLIN l)) {ty : TypeId} (hn : szT G.P ty = some 1) (hg : aggT G.P ty = some false) {j o : Nat} {y : List Int} {x : Int} (hj : l[j]? = some y) (hx : y[o]? = some x) {off : Nat} (ho : off = o) {p : Nat} (hp : p = j) (k : Int → Option γ) :
  cast (fun a : Int => I a) (loadA G σ ty (.ptr id (some p) off)) k = k x := by
 subst ho hp
 refine cast_of (fun a b he => ?_) ?_ k
 ·injection he with h1
  injection h1
 ·have hc : (l.flatMap cLIN)[p]? = some (.nst 1 y.length (y.flatMap cI)) := by
   have := flat_get (c := cLIN) (s := 1) ok_cLIN.len hj (f := 0) (by omega)
   rw [Nat.mul_one, Nat.add_zero] at this
   exact this.trans rfl
  have hx2 : (y.flatMap cI)[off]? = some (I x) := by
   have := flat_get (c := cI) (s := 1) ok_cI.len hx (f := 0) (by omega)
   rw [Nat.mul_one, Nat.add_zero] at this
   exact this.trans rfl
  have htk : takeAt (y.flatMap cI) off 1 = some [I x] := by
   obtain ⟨h1, h2⟩ := List.getElem?_eq_some_iff.1 hx2
   unfold takeAt
   rw [if_pos (by omega)]
   congr 1
   rw [List.drop_eq_getElem_cons h1, h2]
   rfl
  unfold loadA
  rw [hn, Option.bind_some, hg, Option.bind_some]
  simp only [cellsAt, readAt, hb, rowB, hc, htk, Bool.false_eq_true, if_false, if_true, Option.map_some, Option.bind_some, List.map_cons, List.map_nil, subNst, pack]
def ClimD (c : DClimate) : Prop := c.Weights.length ≤ 3 ∧ ∀ r ∈ c.Weights, r.length ≤ 3
theorem l_sc_climate_L3 : ∀ (m k : Nat) (W : List (List Int)) (c : Dl1Cur) (n : Int), k + m = 3 → W.length = k → (∀ r ∈ W, r.length = 3) → Cu c n → n ≤ Far - 1000 - 10 * m →
  ∃ v, L_sc_climate_L3 W c k = some (en_sc_climate v) ∧ (v.1.Weights.length = 3 ∧ (∀ r ∈ v.1.Weights, r.length = 3) ∧ Cu v.2 (n + 10 * m)) := by
 intro m
 induction m with
 | zero =>
  intro k W c n hk hl hr hc hn
  refine okA (e_sc_climate_L3 _ _ _) ?_
  rw [if_neg (by simp; omega)]
  exact OK.some ⟨(⟨W⟩, c), rfl, by show W.length = 3; omega, hr, hc.to⟩
 | succ m ih =>
  intro k W c n hk hl hr hc hn
  unfold Far at hn
  refine okA (e_sc_climate_L3 _ _ _) ?_
  rw [if_pos (by simp; omega)]
  refine OK.cast (slc_inj ok_cI) (a := [0, 0, 6, 18, 36, 12]) rfl ?_
  refine koA inj_sc_among (o_sc_among _ _ _ hc (by unfold Far; omega) (by simp)) fun a ha => ?_
  refine OK.cast (slc_inj ok_cI) (a := [0, 6, 18, 36]) rfl ?_
  refine koA inj_sc_among (o_sc_among _ _ _ ha.2 (by unfold Far; omega) (by simp)) fun b hb => ?_
  rw [cast_of inj_spec_l1Least (c_spec_l1Least _ _)]
  refine koA inj_sc_pick (o_sc_pick _ _ _ hb.2 (by unfold Far; omega)) fun p hp => ?_
  obtain ⟨j, hj⟩ : ∃ j : Nat, p.1 = j := ⟨p.1.toNat, by omega⟩
  have hj3 : j ≤ 2 := by omega
  generalize (if b.1 < IntKind.wrap .i64 (36 - a.1) then b.1 else IntKind.wrap .i64 (36 - a.1)) = y
  generalize IntKind.wrap .i64 (IntKind.wrap .i64 (36 - a.1) - y) = z
  refine OK.eq (slO_lo rt_cI (l := [a.1, y, z]) (j := j) rfl hj (by omega) _) ?_
  dsimp only
  refine OK.cast (slc_inj ok_cI) (a := [a.1, y, z].drop j) (by
   have hc : j = 0 ∨ j = 1 ∨ j = 2 := by omega
   rcases hc with h | h | h <;> subst h <;> rfl) ?_
  rw [cast_of inj_spec_l1Own (c_spec_l1Own _ (by simp; omega)), gd_eq imm_cI]
  refine OK.eq (slO_hi rt_cI (l := [a.1, y, z]) (j := j) rfl hj (by omega) _) ?_
  dsimp only
  rw [apR_eq rt_cI (l := [a.1, y, z].drop j) (xs := ([a.1, y, z].drop 0).take j) rfl (Src.part ok_cI (xs := [a.1, y, z]) rfl (o := 0) (by simp) (by simp; omega)) rfl rfl (by simp; omega) (by simp; omega) rfl]
  have hrow : ([a.1, y, z].drop j ++ ([a.1, y, z].drop 0).take j).length = 3 := by simp; omega
  generalize [a.1, y, z].drop j ++ ([a.1, y, z].drop 0).take j = row at hrow ⊢
  rw [bsA_one ok_cLIN (by omega) (by omega) (by obtain ⟨et, z, h1, h2, _, h3, h4⟩ := rt_cLI.ex; exact ⟨et, z, h1, h2, h3, h4⟩) (a := row) rfl rfl (by
   show handAll true _ [.own (.v 41) none 0 row.length row.length] = some ([.nst 1 row.length (row.flatMap cI)], _, [.v 41])
   exact haC (i1 := [.v 41]) (i2 := []) (haO ok_cI rfl) rfl rfl) rfl rfl]
  rw [apX_eq (m := 1) ok_cLIN (by omega) rt_cLI.ex (l := W) (xs := [row]) rfl rfl (by simp) (by simp [cLIN, isNst]) rfl (by simp; omega) (by simp; omega) rfl rfl, wrap_id (by omega) (by omega)]
  obtain ⟨r, q1, q2⟩ := ih (k + 1) (W ++ [row]) p.2 (n + 6) (by omega) (by simp; omega) (fun r hr2 => by
   rcases List.mem_append.1 hr2 with h | h
   ·exact hr r h
   ·rw [List.mem_singleton.1 h]; exact hrow) hp.2.2.to (by unfold Far; omega)
  exact ⟨_, q1, r, rfl, q2.1, q2.2.1, q2.2.2.to⟩
theorem o_sc_climate (c : Dl1Cur) (n : Int) (hc : Cu c n) (hn : n ≤ Far - 2000) : ∃ v, A_sc_climate c = some (en_sc_climate v) ∧ (v.1.Weights.length = 3 ∧ (∀ r ∈ v.1.Weights, r.length = 3) ∧ Cu v.2 (n + 30)) := by
 refine okA (e_sc_climate _) ?_
 unfold Far at hn
 obtain ⟨r, q1, q2⟩ := l_sc_climate_L3 3 0 [] c n rfl rfl (by simp) hc (by unfold Far; omega)
 exact ⟨_, q1, r, rfl, q2.1, q2.2.1, q2.2.2.to⟩
theorem inj_clim : Inj fun a : DClimate => AV.agg [slc cLI a.Weights] := fun a b h => by
 injection h with h
 injection h with h _
 obtain ⟨x⟩ := a
 obtain ⟨y⟩ := b
 exact congrArg _ (slc_inj ok_cLI _ _ h)
theorem haF {α : Type} {c : α → List AV} {e : Nat} (hc : COk c e) {σ : Store} {id : Id} {l r : List α} {cap : Nat} (hb : σ.get? id = some (rowB true false e c (l ++ r))) (hcap : l.length ≤ cap) : handIn false σ (.own id none 0 l.length cap) = some (slc c l, σ.del id, [id]) := by
 simp only [handIn, hb, rowB]
 by_cases hr : ((l ++ r).flatMap c).length = l.length * e
 ·rw [if_pos ⟨trivial, trivial, trivial, hr, hcap⟩]
  have h2 : (l ++ r).flatMap c = l.flatMap c := by
   rw [List.flatMap_append] at hr ⊢
   rw [List.length_append, flat_len hc.len] at hr
   have : (r.flatMap c).length = 0 := by omega
   rw [List.eq_nil_of_length_eq_zero this, List.append_nil]
  simp only [Bool.false_eq_true, if_false, h2]
  rfl
 ·rw [if_neg (fun h => hr h.2.2.2.1), if_pos ⟨trivial, trivial, trivial, trivial, by rw [flat_len hc.len, List.length_append]; exact Nat.mul_le_mul_right _ (Nat.le_add_right _ _), hcap⟩]
  simp only [Bool.false_eq_true, if_false]
  rw [flat_take hc.len, List.take_left']
  ·rfl
  ·rfl
theorem put_row {l : List (List Int)} {j : Nat} {row : List Int} (hj : j < l.length) : putAt (l.flatMap cLI) (j * 1) [slc cI row] = (l.set j row).flatMap cLI := by
 have := flat_set ok_cLI.len (List.getElem?_eq_getElem hj) (f := 0) (by omega) (v := slc cI row) (y' := row) rfl
 rw [Nat.add_zero] at this
 rw [← this]
 have hl : j * 1 < (l.flatMap cLI).length := by rw [flat_len ok_cLI.len]; omega
 unfold putAt
 rw [List.set_eq_take_append_cons_drop, if_pos hl]
 simp
theorem stX_at {γ : Type} {G : Cfg} {σ : Store} {id sid : Id} {l : List (List Int)} {row r2 : List Int} (hb : σ.get? id = some (rowB true true 1 cLIN l)) (hs : σ.get? sid = some (rowB true false 1 cI (row ++ r2))) (hne : sid ≠ id) {ty : TypeId} (hn : szT G.P ty = some 1) {j off : Nat} (hj : j < l.length) (ho : off = j * 1)
  {n m : Nat} (hm : n = row.length) (hcap : row.length ≤ m) (k : List (List Int) → Option γ) : stX G cLI σ id (rowB true false 1 cLIN l) ty (.ptr id none off) (.own sid none 0 n m) [sid] k = k (l.set j row) := by
 subst hm ho
 unfold stX
 refine cast_of (fun p q hpq => ?_) ?_ k
 ·injection hpq with _ h7
  have h8 : (((delAll σ [sid]).put id { rowB true false 1 cLIN l with cells := p.flatMap cLI }).get? id) = (((delAll σ [sid]).put id { rowB true false 1 cLIN l with cells := q.flatMap cLI }).get? id) := by rw [h7]
  rw [get_put_same, get_put_same] at h8
  injection h8 with h8
  injection h8 with _ _ _ _ h9
  refine flat_inj ok_cLI _ _ ?_ h9
  have h10 := congrArg List.length h9
  rw [flat_len ok_cLI.len, flat_len ok_cLI.len] at h10
  omega
 ·unfold storeA
  rw [hn, Option.bind_some]
  unfold storeAt
  rw [if_neg (by simp [AV.cellOk, AV.one])]
  simp only [hb]
  rw [if_pos (show (rowB true true 1 cLIN l).arr = true from rfl)]
  unfold storeArr
  have hh : handAll false σ (AV.own sid none 0 row.length m).cells = some ([slc cI row], σ.del sid, [sid]) := haC (i1 := [sid]) (i2 := []) (haF ok_cI hs hcap) rfl rfl
  rw [hh]
  simp only
  rw [if_pos ⟨rfl, by show j * 1 + 1 ≤ (l.flatMap cLIN).length; rw [flat_len ok_cLIN.len]; omega, by simp [hne.symm]⟩, if_pos ⟨rfl, by simp⟩, if_pos (show (rowB true true 1 cLIN l).fr = true from rfl)]
  simp only [rowB, frz_LI, put_row hj]
  rfl
theorem o_sc_anyClimate (c : Dl1Cur) (n : Int) (hc : Cu c n) (hn : n ≤ Far - 3000) : ∃ v, A_sc_anyClimate c = some (en_sc_anyClimate v) ∧ (ClimD v.1 ∧ Cu v.2 (n + 50)) := by
 refine okA (e_sc_anyClimate _) ?_
 unfold Far at hn
 refine koA inj_sc_climate (o_sc_climate _ _ hc (by unfold Far; omega)) fun r hr => ?_
 obtain ⟨⟨W⟩, c1⟩ := r
 obtain ⟨hl, hr, hc1⟩ := hr
 dsimp only at hl hr hc1 ⊢
 refine koA inj_sc_pick (o_sc_pick _ _ _ hc1 (by unfold Far; omega)) fun p hp => ?_
 obtain ⟨t, ht⟩ : ∃ t, W[0]? = some t := ⟨_, List.getElem?_eq_getElem (by omega)⟩
 have htl := hr t (mem_of_get ht)
 refine OK.ite (fun _ => ?_) (fun _ => OK.ite (fun _ => ?_) (fun _ => OK.ite (fun _ => ?_) (fun _ => ?_)))
 ·rw [oxA_at rt_cLI (i := 0) (j := 0) rfl (by omega), ldN_at ok_cLIN rfl rfl rfl ht rfl (by omega) (cLIN_row t), oxA_at rt_cI (i := 0) (j := 0) rfl (by omega)]
  refine OK.eq (ld_sub (l := W) rfl rfl rfl ht (o := 0) (x := t[0]'(by omega)) (List.getElem?_eq_getElem _) rfl rfl _) ?_
  rw [oxA_at rt_cI (i := 0) (j := 0) rfl (by omega), stN ok_cLIN (by omega) rfl rfl ht rfl (by omega) (cLIN_row t) (by rw [flat_len ok_cI.len]; omega) rfl (y' := t.set 0 (IntKind.wrap .i64 (t[0]'(by omega) + 1))) (by
   rw [show (0 * 1 : Nat) = 0 * 1 + 0 from rfl, putAt_elem ok_cI.len (l := t) (j := 0) (y := t[0]'(by omega)) (y' := IntKind.wrap .i64 (t[0]'(by omega) + 1)) (List.getElem?_eq_getElem _) (by simp) rfl]
   simp [cLIN])]
  refine OK.cast inj_clim (a := ⟨W.set 0 (t.set 0 (IntKind.wrap .i64 (t[0]'(by omega) + 1)))⟩) (gvT (gvL_cons (giveLL0 (by simp) rfl) rfl)) ?_
  refine OK.some ⟨(_, _), rfl, ⟨by simp; omega, fun r hr2 => ?_⟩, hp.2.2.to⟩
  rcases List.mem_or_eq_of_mem_set hr2 with h | h
  ·exact Nat.le_of_eq (hr r h)
  ·rw [h, List.length_set]; omega
 ·refine OK.eq (slN_lo rt_cLI (l := W) (i := 1) (j := 1) rfl rfl (by omega) _) ?_
  dsimp only
  refine OK.cast inj_clim (a := ⟨W.drop 1⟩) (gvT (gvL_cons (giveLL rfl (by omega) rfl) rfl)) ?_
  exact OK.some ⟨(_, _), rfl, ⟨by simp; omega, fun r hr2 => Nat.le_of_eq (hr r (List.mem_of_mem_drop hr2))⟩, hp.2.2.to⟩
 ·rw [oxA_at rt_cLI (i := 1) (j := 1) rfl (by omega)]
  refine OK.eq (stX_at (l := W) (row := [-1, 37, 0]) (r2 := []) rfl rfl (by decide) rfl (j := 1) (by omega) rfl rfl (by decide) _) ?_
  refine OK.cast inj_clim (a := ⟨(W.set 1 [-1, 37, 0]).take W.length⟩) (gvT (gvL_cons (giveN ok_cLI (l := W.set 1 [-1, 37, 0]) (n := W.length) (by simp) rfl) rfl)) ?_
  refine OK.some ⟨(⟨(W.set 1 [-1, 37, 0]).take W.length⟩, _), rfl, ⟨by simp; omega, fun r hr2 => ?_⟩, hp.2.2.to⟩
  rcases List.mem_or_eq_of_mem_set (List.mem_of_mem_take hr2) with h | h
  ·exact Nat.le_of_eq (hr r h)
  ·rw [h]; simp
 ·refine OK.cast inj_clim (a := ⟨W⟩) (gvT (gvL_cons (giveLL0 rfl rfl) rfl)) ?_
  exact OK.some ⟨(_, _), rfl, ⟨by show W.length ≤ 3; omega, fun r hr2 => Nat.le_of_eq (hr r hr2)⟩, hp.2.2.to⟩
theorem slO_lh {α γ : Type} {P : Program} {σ : Store} {ty : TypeId} {c : α → List AV} {e by_ : Nat} (h : RowT P ty c e by_) {id : Id} {fr nest : Bool} {l : List α} (hb : σ.get? id = some (rowB fr nest e c l)) {n cap : Nat} {i i2 : Int} {j j2 : Nat} (hi : i = j) (hi2 : i2 = j2) (hj : j ≤ j2) (hj2 : j2 ≤ cap) (k : Nat × Nat × Nat → Option γ) :
  cast (fun a : Nat × Nat × Nat => AV.own id none (a.1 * e) a.2.1 a.2.2) (evSlice P σ ty (.own id none 0 n cap) (some (.sc (.int .i64 i))) (some (.sc (.int .i64 i2))) none) k = k (j, j2 - j, cap - j) := by
 obtain ⟨et, z, h1, h2, _⟩ := h.ex
 refine cast_of (fun a b he => ?_) ?_ k
 ·injection he with _ _ h5 h3 h4
  exact Prod.ext (Nat.eq_of_mul_eq_mul_right h.pos h5) (Prod.ext h3 h4)
 ·subst hi hi2
  have hr : rowOf σ id none = some (l.flatMap c, e) := by simp only [rowOf, hb, rowB, if_true]
  unfold evSlice
  simp only [h1, h2, hr, if_true]
  simp only [evBounds, bMax, bHi, bLo, bound, underMax, Option.bind_some, Option.isNone_none, if_true]
  rw [if_pos ⟨by omega, by omega, by simp⟩]
  simp [hj]
def scale8 : List Int := [6, 5, 4, 0, 7, 1, 2, 3]
def TableD (t : DCombatTable) : Prop := t.Columns.length ≤ 8 ∧ t.Results.length ≤ 20 ∧ ∀ r ∈ t.Results, r.length ≤ 8
theorem l_ct_L12 (cols : List DOdds) (res : List (List Int)) (a1 dice rows : Int) (i : Nat) (hi : i ≤ 20) (hres : res.length ≤ 20) (hcols : cols.length ≤ 8) (hrows : 1 ≤ rows ∧ rows ≤ 20) (n : Int) (hn : n ≤ Far - 1000) (Q : R → Prop)
  (out : ∀ c (row : List Int), Cu c (n + 20) → row.length = cols.length → OK (L_sc_combatTable_L8 cols (res ++ [row]) scale8 c a1 dice rows ((i + 1 : Nat) : Int)) Q) :
  ∀ (m j : Nat) (row : List Int) (c : Dl1Cur), j + m = cols.length → row.length = j → Cu c (n + 2 * j) → OK (L_sc_combatTable_L12 cols res scale8 row c a1 dice rows i cols.length j) Q := by
 unfold Far at hn
 intro m
 induction m with
 | zero =>
  intro j row c hj hl hc
  refine OK.le (e_sc_combatTable_L12 _ _ _ _ _ _ _ _ _ _ _) ?_
  rw [if_neg (by simp; omega), wrap_id (n := (i : Int) + 1) (by omega) (by omega)]
  rw [bsA_one ok_cLIN (by omega) (by omega) (by obtain ⟨et, z, h1, h2, _, h3, h4⟩ := rt_cLI.ex; exact ⟨et, z, h1, h2, h3, h4⟩) (a := row) rfl rfl (by
   show handAll true _ [.own (.h 10 0) none 0 row.length row.length] = some ([.nst 1 row.length (row.flatMap cI)], _, [.h 10 0])
   exact haC (i1 := [.h 10 0]) (i2 := []) (haO ok_cI rfl) rfl rfl) rfl rfl]
  rw [apX_eq (m := 1) ok_cLIN (by omega) rt_cLI.ex (l := res) (xs := [row]) rfl rfl (by simp) (by simp [cLIN, isNst]) rfl (by simp; omega) (by simp; omega) rfl rfl]
  exact out c row hc.to (by omega)
 | succ m ih =>
  intro j row c hj hl hc
  refine OK.le (e_sc_combatTable_L12 _ _ _ _ _ _ _ _ _ _ _) ?_
  rw [if_pos (by simp; omega), if_neg (by omega)]
  refine koA inj_sc_pick (o_sc_pick _ _ _ hc (by unfold Far; omega)) fun v hv => ?_
  have t1 := Int.tdiv_nonneg (show 0 ≤ 5 * (i : Int) by omega) (show 0 ≤ rows by omega)
  have t2 : (5 * (i : Int)).tdiv rows ≤ 100 := by
   have := Int.natAbs_tdiv_le_natAbs (5 * (i : Int)) rows
   omega
  have t3 := Int.tdiv_nonneg (show 0 ≤ (j : Int) * 2 by omega) (show (0 : Int) ≤ 3 by omega)
  have t4 : ((j : Int) * 2).tdiv 3 ≤ 16 := by
   have := Int.natAbs_tdiv_le_natAbs ((j : Int) * 2) 3
   omega
  have t5 := Int.tdiv_nonneg hv.1 (show (0 : Int) ≤ 2 by omega)
  have t6 : v.1.tdiv 2 ≤ 2 := by
   have := Int.natAbs_tdiv_le_natAbs v.1 2
   omega
  rw [wrap_id (n := 5 * (i : Int)) (by omega) (by omega), wrap_id (n := (j : Int) * 2) (by omega) (by omega), wrap_id (n := (5 * (i : Int)).tdiv rows) (by omega) (by omega), wrap_id (n := ((j : Int) * 2).tdiv 3) (by omega) (by omega),
   wrap_id (n := v.1.tdiv 2) (by omega) (by omega), wrap_id (n := (5 * (i : Int)).tdiv rows + ((j : Int) * 2).tdiv 3) (by omega) (by omega), wrap_id (n := (5 * (i : Int)).tdiv rows + ((j : Int) * 2).tdiv 3 + v.1.tdiv 2) (by omega) (by omega), cast_of inj_spec_l1Least (c_spec_l1Least _ _)]
  obtain ⟨q, hq, hq8⟩ : ∃ q : Nat, (if (7 : Int) < (5 * (i : Int)).tdiv rows + ((j : Int) * 2).tdiv 3 + v.1.tdiv 2 then 7 else (5 * (i : Int)).tdiv rows + ((j : Int) * 2).tdiv 3 + v.1.tdiv 2) = q ∧ q < 8 := by
   split
   ·exact ⟨7, rfl, by omega⟩
   ·exact ⟨((5 * (i : Int)).tdiv rows + ((j : Int) * 2).tdiv 3 + v.1.tdiv 2).toNat, by omega, by omega⟩
  rw [hq, oxA_at rt_cI rfl (show q < scale8.length from hq8)]
  refine OK.eq (ld_at (E := tI) rfl rfl ok_cI (fun _ => rfl) (l := scale8) rfl rfl (List.getElem?_eq_getElem (show q < scale8.length from hq8)) _) ?_
  rw [apR_eq rt_cI (l := row) (xs := [scale8[q]'hq8]) rfl (Src.row (n := 1) ok_cI rfl rfl) rfl rfl (by simp; omega) (by simp; omega) rfl, wrap_id (n := (j : Int) + 1) (by omega) (by omega)]
  exact ih (j + 1) _ v.2 (by omega) (by simp; omega) hv.2.2.to
theorem inj_table : Inj fun a : DCombatTable => AV.agg [slc cOdds a.Columns, I a.Dice, slc cLI a.Results] := fun a b h => (cCombatTable_eq a b).1 (by injection h)
theorem l_ct_L8 (cols : List DOdds) (hc0 : 1 ≤ cols.length) (hcols : cols.length ≤ 8) (a1 dice : Int) (rows : Nat) (hrows : 1 ≤ rows ∧ rows ≤ 20) (n0 : Int) (hn : n0 ≤ Far - 10000) :
  ∀ (m i : Nat) (res : List (List Int)) (c : Dl1Cur), i + m = rows → res.length = i → (∀ r ∈ res, r.length = cols.length) → Cu c (n0 + 20 * i) →
  OK (L_sc_combatTable_L8 cols res scale8 c a1 dice rows i) fun r => ∃ v, r = en_sc_combatTable v ∧ (TableD v.1 ∧ Cu v.2 (n0 + 1000)) := by
 unfold Far at hn
 intro m
 induction m with
 | zero =>
  intro i res c hi hl hr hc
  refine OK.le (e_sc_combatTable_L8 _ _ _ _ _ _ _ _) ?_
  rw [if_neg (by simp; omega)]
  refine koA inj_sc_one (o_sc_one _ _ _ hc (by unfold Far; omega)) fun o ho => ?_
  refine OK.ite (fun _ => ?_) (fun _ => ?_)
  ·refine koA inj_sc_pick (o_sc_pick _ _ _ ho (by unfold Far; omega)) fun p hp => ?_
   obtain ⟨q, hq⟩ : ∃ q : Nat, p.1 = q := ⟨p.1.toNat, by omega⟩
   have hql : q < res.length := by omega
   obtain ⟨t, ht⟩ : ∃ t, res[q]? = some t := ⟨_, List.getElem?_eq_getElem hql⟩
   have htl := hr t (mem_of_get ht)
   rw [hq, oxA_at rt_cLI rfl hql, ldN_at ok_cLIN rfl rfl rfl ht (f := 0) (off := q * 1) rfl (by omega) (cLIN_row t)]
   refine koA inj_sc_pick (o_sc_pick _ _ _ hp.2.2 (by unfold Far; omega)) fun p2 hp2 => ?_
   refine koA inj_sc_pick (o_sc_pick _ _ _ hp2.2.2 (by unfold Far; omega)) fun p3 hp3 => ?_
   obtain ⟨z, hz⟩ : ∃ z : Nat, p2.1 = z := ⟨p2.1.toNat, by omega⟩
   have hzl : z < t.length := by omega
   rw [hz, oxA_at rt_cI rfl hzl, stN ok_cLIN (by omega) rfl rfl ht (f := 0) (off := q * 1) rfl (by omega) (cLIN_row t) (o := z * 1) (by rw [flat_len ok_cI.len]; omega) rfl (y' := t.set z p3.1) (by
    rw [show (z * 1 : Nat) = z * 1 + 0 from rfl, putAt_elem ok_cI.len (l := t) (j := z) (y := t[z]'hzl) (y' := p3.1) (List.getElem?_eq_getElem _) (by simp) rfl]
    simp [cLIN])]
   refine OK.cast inj_table (a := ⟨cols, dice, res.set q (t.set z p3.1)⟩) (gvT (gvL_cons (giveUp_at ok_cOdds rfl) (gvL_cons rfl (gvL_cons (giveLL0 (by simp) rfl) rfl)))) ?_
   refine OK.some ⟨(_, _), rfl, ⟨hcols, by simp; omega, fun r hr2 => ?_⟩, hp3.2.2.to⟩
   rcases List.mem_or_eq_of_mem_set hr2 with h | h
   ·rw [hr r h]; exact hcols
   ·rw [h, List.length_set]; omega
  ·refine OK.cast inj_table (a := ⟨cols, dice, res⟩) (gvT (gvL_cons (giveUp_at ok_cOdds rfl) (gvL_cons rfl (gvL_cons (giveLL0 rfl rfl) rfl)))) ?_
   exact OK.some ⟨(_, _), rfl, ⟨hcols, by show res.length ≤ 20; omega, fun r hr2 => by rw [hr r hr2]; exact hcols⟩, ho.to⟩
 | succ m ih =>
  intro i res c hi hl hr hc
  refine OK.le (e_sc_combatTable_L8 _ _ _ _ _ _ _ _) ?_
  rw [if_pos (by simp; omega)]
  refine l_ct_L12 cols res a1 dice rows i (by omega) (by omega) hcols (by omega) (n0 + 20 * i) (by unfold Far; omega) _ (fun c2 row hc2 hrow => ?_) cols.length 0 [] c (by omega) rfl hc.to
  refine ih (i + 1) (res ++ [row]) c2 (by omega) (by simp; omega) (fun r hr2 => ?_) hc2.to
  rcases List.mem_append.1 hr2 with h | h
  ·exact hr r h
  ·rw [List.mem_singleton.1 h]; exact hrow
theorem o_sc_combatTable (c : Dl1Cur) (n : Int) (hc : Cu c n) (hn : n ≤ Far - 20000) : ∃ v, A_sc_combatTable c = some (en_sc_combatTable v) ∧ (TableD v.1 ∧ Cu v.2 (n + 1010)) := by
 refine okA (e_sc_combatTable _) ?_
 unfold Far at hn
 refine koA inj_sc_pick (o_sc_pick _ _ _ hc (by unfold Far; omega)) fun p hp => ?_
 refine koA inj_sc_pick (o_sc_pick _ _ _ hp.2.2 (by unfold Far; omega)) fun q hq => ?_
 rw [wrap_id (n := 1 + q.1) (by omega) (by omega), wrap_id (n := p.1 + (1 + q.1)) (by omega) (by omega), cast_of inj_spec_l1Least (c_spec_l1Least _ _)]
 obtain ⟨j, hj⟩ : ∃ j : Nat, p.1 = j := ⟨p.1.toNat, by omega⟩
 obtain ⟨j2, hj2, hjj, hj8⟩ : ∃ j2 : Nat, (if p.1 + (1 + q.1) < 8 then p.1 + (1 + q.1) else 8) = (j2 : Int) ∧ j < j2 ∧ j2 ≤ 8 := by
  split
  ·exact ⟨(p.1 + (1 + q.1)).toNat, by omega, by omega, by omega⟩
  ·exact ⟨8, rfl, by omega, by omega⟩
 have hj3 : j ≤ 3 := by omega
 let odds : List DOdds := [⟨1, 3⟩, ⟨1, 2⟩, ⟨1, 1⟩, ⟨3, 2⟩, ⟨2, 1⟩, ⟨3, 1⟩, ⟨5, 1⟩, ⟨7, 1⟩]
 refine OK.eq (slO_lh rt_cOdds (l := odds) (j := j) (j2 := j2) rfl hj hj2 (by omega) (by omega) _) ?_
 dsimp only
 rw [apR_eq rt_cOdds (l := []) (n := 0) (xs := (odds.drop j).take (j2 - j)) rfl (Src.part ok_cOdds (xs := odds) rfl (o := j) rfl (by show j + (j2 - j) ≤ 8; omega)) rfl rfl (by simp; omega) (by simp; omega) rfl]
 have hlen : ([] ++ (odds.drop j).take (j2 - j)).length = j2 - j := by simp [odds]; omega
 generalize [] ++ (odds.drop j).take (j2 - j) = cols at hlen ⊢
 refine koA inj_sc_pick (o_sc_pick _ _ _ hq.2.2 (by unfold Far; omega)) fun d hd => ?_
 have hk : A_spec_kRows (IntKind.wrap .i64 (1 + d.1)) = some (en_spec_kRows (IntKind.wrap .i64 (IntKind.wrap .i64 (5 * IntKind.wrap .i64 (1 + d.1)) + 1))) := by apply e_spec_kRows; rfl
 rw [cast_of inj_spec_kRows hk, wrap_id (n := 1 + d.1) (by omega) (by omega), wrap_id (n := 5 * (1 + d.1)) (by omega) (by omega), wrap_id (n := 5 * (1 + d.1) + 1) (by omega) (by omega)]
 obtain ⟨rows, hrows⟩ : ∃ r : Nat, 5 * (1 + d.1) + 1 = (r : Int) := ⟨(5 * (1 + d.1) + 1).toNat, by omega⟩
 rw [hrows]
 have := l_ct_L8 cols (by omega) (by omega) 0 (1 + d.1) rows (by omega) (n + 6) (by unfold Far; omega) rows 0 [] d.2 (by omega) rfl (by simp) hd.2.2.to
 exact this.mono fun r ⟨v, h1, h2, h3⟩ => ⟨v, h1, h2, h3.to⟩
theorem inj_bs2 : Inj fun a : DBoard × DState => AV.tup [AV.agg [slc cTerrain a.fst.Rules.Terrains, slc cKind a.fst.Rules.Kinds, I a.fst.Rules.Stack, I a.fst.Rules.River, I a.fst.Rules.Road, I a.fst.Rules.Supply, I a.fst.Rules.Turns, I a.fst.Map.Width, I a.fst.Map.Height, slc cI a.fst.Map.Terrain, slc cI a.fst.Map.Rivers, slc cI a.fst.Map.Roads], AV.agg [I a.snd.Turn, I a.snd.Weather, slc cUnit a.snd.Units]] := fun a b h => by
 injection h with h
 injection h with h1 h
 injection h with h2 h
 exact Prod.ext (inj_board _ _ h1) (inj_state _ _ h2)
abbrev CloseQ (n : Int) (v : (DBoard × DState) × Dl1Cur) : Prop := BoardN v.1.1 ∧ 1 ≤ v.1.2.Units.length ∧ v.1.2.Units.length ≤ 20 ∧ Cu v.2 n
theorem l_sc_close_L6_1 (b : DBoard) (hb : BoardN b) (a2 a3 a4 a5 a6 a7 a8 s0 s1 tu we : Int) : ∀ (k : Nat) (l : List DUnit) (c : Dl1Cur) (n : Int), 1 ≤ l.length → l.length + k ≤ 20 → Cu c n → n ≤ Far - 1000 - 100 * k →
  ∃ v, L_sc_close_L6_1 l c a2 a3 a4 a5 a6 a7 a8 s0 s1 b tu we 0 l.length l.length k = some (en_sc_close v) ∧ CloseQ (n + 100 * k) v := by
 intro k
 have fin : ∀ (k : Nat) (l : List DUnit) (c : Dl1Cur) (n : Int), 1 ≤ l.length → l.length ≤ 20 → Cu c n → OK (P_sc_close_L6_1 l c a2 a3 a4 a5 a6 a7 a8 s0 s1 b tu we 0 l.length l.length 0) fun r => ∃ v, r = en_sc_close v ∧ CloseQ (n + 100 * k) v := by
  intro k l c n h1 h2 hc
  unfold P_sc_close_L6_1
  rw [if_neg (by simp)]
  exact OK.cast inj_bs2 (a := (b, ⟨tu, we, l⟩)) (gvTup (gvVs_cons rfl (gvVs_cons (gvState' rfl rfl) rfl))) (OK.some ⟨((b, ⟨tu, we, l⟩), c), rfl, hb, h1, h2, hc.to⟩)
 induction k with
 | zero =>
  intro l c n h1 h2 hc hn
  exact okA (e_sc_close_L6_1 _ _ _ _ _ _ _ _ _ _ _ _ _ _ _ _ _ _) (fin 0 l c n h1 (by omega) hc)
 | succ k ih =>
  intro l c n h1 h2 hc hn
  unfold Far at hn
  refine okA (e_sc_close_L6_1 _ _ _ _ _ _ _ _ _ _ _ _ _ _ _ _ _ _) ?_
  have hfin := fin (k + 1) l c n h1 (by omega) hc
  unfold P_sc_close_L6_1 at hfin ⊢
  rw [if_neg (by simp)] at hfin
  have hw : IntKind.wrap .i64 (((k + 1 : Nat) : Int) - 1) = (k : Int) := by rw [wrap_id (by omega) (by omega)]; omega
  rw [if_pos (by simp), hw]
  refine OK.ite (fun h12 => ?_) (fun _ => hfin)
  refine koA inj_sc_pick (o_sc_pick _ _ _ hc (by unfold Far; omega)) fun p hp => ?_
  rw [cast_of inj_spec_mSize (c_spec_mSize _)]
  refine koA inj_sc_pick (o_sc_pick _ _ _ hp.2.2 (by unfold Far; omega)) fun q hq => ?_
  rw [apR_eq rt_cUnit (l := l) (xs := [⟨p.1, 0, q.1, 1⟩]) rfl (Src.row (n := 1) ok_cUnit rfl rfl) rfl rfl (by simp; omega) (by simp; omega) rfl]
  refine OK.cast inj_state (gvState (Nat.le_refl _) rfl) ?_
  rw [List.take_length]
  rw [cast_of inj_spec_sGood (c_spec_sGood _ _ hb (by show (l ++ [_]).length < _; simp; omega))]
  have hx : (l ++ [(⟨p.1, 0, q.1, 1⟩ : DUnit)])[l.length]? = some ⟨p.1, 0, q.1, 1⟩ := by simp
  refine OK.ite (fun _ => ?_) (fun _ => ?_)
  ·rw [oxA_at rt_cUnit (j := l.length) (by rw [wrap_id (by simp <;> omega) (by simp <;> omega)]; simp) (by simp)]
   rw [stF (f := 2) (off := l.length * 4 + 2) (l := l ++ [(⟨p.1, 0, q.1, 1⟩ : DUnit)]) ok_cUnit rfl rfl hx rfl (by omega) rfl (y' := (⟨p.1, 0, -1, 1⟩ : DUnit)) rfl]
   obtain ⟨r, q1, q2⟩ := ih ((l ++ [(⟨p.1, 0, q.1, 1⟩ : DUnit)]).set l.length ⟨p.1, 0, -1, 1⟩) q.2 (n + 100) (by simp) (by simp; omega) hq.2.2.to (by unfold Far; omega)
   rw [List.length_set] at q1
   exact ⟨_, q1, r, rfl, q2.1, q2.2.1, q2.2.2.1, q2.2.2.2.to⟩
  ·obtain ⟨r, q1, q2⟩ := ih (l ++ [(⟨p.1, 0, q.1, 1⟩ : DUnit)]) q.2 (n + 100) (by simp) (by simp; omega) hq.2.2.to (by unfold Far; omega)
   exact ⟨_, q1, r, rfl, q2.1, q2.2.1, q2.2.2.1, q2.2.2.2.to⟩
theorem gvB {σ : Store} {ts : List DTerrain} {ks : List DKind} {a b c d e w h : Int} {ter : List Int} {id : Id} {fr : Bool} (hb : σ.get? id = some (rowB fr false 1 cI ter)) :
  giveUpV σ (.agg [slc cTerrain ts, slc cKind ks, I a, I b, I c, I d, I e, I w, I h, .own id none 0 ter.length ter.length, .emp, .emp]) = some (.agg (cBoard ⟨⟨ts, ks, a, b, c, d, e⟩, ⟨w, h, ter, [], []⟩⟩)) :=
 gvV (gvL_cons rfl (gvL_cons rfl (gvL_cons rfl (gvL_cons rfl (gvL_cons rfl (gvL_cons rfl (gvL_cons rfl (gvL_cons rfl (gvL_cons rfl (gvL_cons (giveUp_at ok_cI hb) (gvL_cons rfl (gvL_cons rfl rfl))))))))))))
theorem gvM {σ : Store} {w h : Int} {ter : List Int} {id : Id} {fr : Bool} (hb : σ.get? id = some (rowB fr false 1 cI ter)) :
  giveUpV σ (.agg [I w, I h, .own id none 0 ter.length ter.length, .emp, .emp]) = some (.agg (cMap ⟨w, h, ter, [], []⟩)) :=
 gvV (gvL_cons rfl (gvL_cons rfl (gvL_cons (giveUp_at ok_cI hb) (gvL_cons rfl (gvL_cons rfl rfl)))))
theorem l_sc_close_L6 (ter : List Int) (hter : ter.length ≤ 100) (ts : List DTerrain) (ks : List DKind) (st ri ro su tn W H : Int) (hr : RulesN ⟨ts, ks, st, ri, ro, su, tn⟩) (a2 a3 a4 a5 a6 a7 a8 s0 s1 tu we : Int) : ∀ (k : Nat) (l : List DUnit) (c : Dl1Cur) (n : Int), 1 ≤ l.length → l.length + k ≤ 20 → Cu c n → n ≤ Far - 1000 - 100 * k →
  ∃ v, L_sc_close_L6 ter l c a2 a3 a4 a5 a6 a7 a8 s0 s1 ts ks st ri ro su tn W H tu we 0 l.length l.length k = some (en_sc_close v) ∧ CloseQ (n + 100 * k) v := by
 intro k
 have hb : BoardN ⟨⟨ts, ks, st, ri, ro, su, tn⟩, ⟨W, H, ter, [], []⟩⟩ := ⟨hr, ⟨by show ter.length < _; omega, by show ([] : List Int).length < _; simp, by show ([] : List Int).length < _; simp⟩⟩
 have fin : ∀ (k : Nat) (l : List DUnit) (c : Dl1Cur) (n : Int), 1 ≤ l.length → l.length ≤ 20 → Cu c n → OK (P_sc_close_L6 ter l c a2 a3 a4 a5 a6 a7 a8 s0 s1 ts ks st ri ro su tn W H tu we 0 l.length l.length 0) fun r => ∃ v, r = en_sc_close v ∧ CloseQ (n + 100 * k) v := by
  intro k l c n h1 h2 hc
  unfold P_sc_close_L6
  rw [if_neg (by simp)]
  exact OK.cast inj_bs2 (a := (⟨⟨ts, ks, st, ri, ro, su, tn⟩, ⟨W, H, ter, [], []⟩⟩, ⟨tu, we, l⟩)) (gvTup (gvVs_cons (gvB rfl) (gvVs_cons (gvState' rfl rfl) rfl))) (OK.some ⟨((⟨⟨ts, ks, st, ri, ro, su, tn⟩, ⟨W, H, ter, [], []⟩⟩, ⟨tu, we, l⟩), c), rfl, hb, h1, h2, hc.to⟩)
 induction k with
 | zero =>
  intro l c n h1 h2 hc hn
  exact okA (e_sc_close_L6 _ _ _ _ _ _ _ _ _ _ _ _ _ _ _ _ _ _ _ _ _ _ _ _ _ _ _) (fin 0 l c n h1 (by omega) hc)
 | succ k ih =>
  intro l c n h1 h2 hc hn
  unfold Far at hn
  refine okA (e_sc_close_L6 _ _ _ _ _ _ _ _ _ _ _ _ _ _ _ _ _ _ _ _ _ _ _ _ _ _ _) ?_
  have hfin := fin (k + 1) l c n h1 (by omega) hc
  unfold P_sc_close_L6 at hfin ⊢
  rw [if_neg (by simp)] at hfin
  have hw : IntKind.wrap .i64 (((k + 1 : Nat) : Int) - 1) = (k : Int) := by rw [wrap_id (by omega) (by omega)]; omega
  rw [if_pos (by simp), hw]
  refine OK.ite (fun h12 => ?_) (fun _ => hfin)
  refine koA inj_sc_pick (o_sc_pick _ _ _ hc (by unfold Far; omega)) fun p hp => ?_
  refine OK.cast inj_map (a := ⟨W, H, ter, [], []⟩) (gvM rfl) ?_
  rw [cast_of inj_spec_mSize (c_spec_mSize _)]
  refine koA inj_sc_pick (o_sc_pick _ _ _ hp.2.2 (by unfold Far; omega)) fun q hq => ?_
  rw [apR_eq rt_cUnit (l := l) (xs := [⟨p.1, 0, q.1, 1⟩]) rfl (Src.row (n := 1) ok_cUnit rfl rfl) rfl rfl (by simp; omega) (by simp; omega) rfl]
  refine OK.cast inj_board (a := ⟨⟨ts, ks, st, ri, ro, su, tn⟩, ⟨W, H, ter, [], []⟩⟩) (gvB rfl) ?_
  refine OK.cast inj_state (gvState (Nat.le_refl _) rfl) ?_
  rw [List.take_length]
  rw [cast_of inj_spec_sGood (c_spec_sGood _ _ hb (by show (l ++ [_]).length < _; simp; omega))]
  have hx : (l ++ [(⟨p.1, 0, q.1, 1⟩ : DUnit)])[l.length]? = some ⟨p.1, 0, q.1, 1⟩ := by simp
  refine OK.ite (fun _ => ?_) (fun _ => ?_)
  ·rw [oxA_at rt_cUnit (j := l.length) (by rw [wrap_id (by simp <;> omega) (by simp <;> omega)]; simp) (by simp)]
   rw [stF (f := 2) (off := l.length * 4 + 2) (l := l ++ [(⟨p.1, 0, q.1, 1⟩ : DUnit)]) ok_cUnit rfl rfl hx rfl (by omega) rfl (y' := (⟨p.1, 0, -1, 1⟩ : DUnit)) rfl]
   obtain ⟨r, q1, q2⟩ := ih ((l ++ [(⟨p.1, 0, q.1, 1⟩ : DUnit)]).set l.length ⟨p.1, 0, -1, 1⟩) q.2 (n + 100) (by simp) (by simp; omega) hq.2.2.to (by unfold Far; omega)
   rw [List.length_set] at q1
   exact ⟨_, q1, r, rfl, q2.1, q2.2.1, q2.2.2.1, q2.2.2.2.to⟩
  ·obtain ⟨r, q1, q2⟩ := ih (l ++ [(⟨p.1, 0, q.1, 1⟩ : DUnit)]) q.2 (n + 100) (by simp) (by simp; omega) hq.2.2.to (by unfold Far; omega)
   exact ⟨_, q1, r, rfl, q2.1, q2.2.1, q2.2.2.1, q2.2.2.2.to⟩
theorem o_sc_close (c : Dl1Cur) (n : Int) (hc : Cu c n) (hn : n ≤ Far - 500000) : ∃ v, A_sc_close c = some (en_sc_close v) ∧ CloseQ (n + 10000) v := by
 refine okA (e_sc_close _) ?_
 unfold Far at hn
 refine koA inj_sc_board (o2_sc_board _ _ hc (by unfold Far; omega)) fun r hr => ?_
 obtain ⟨b, c1⟩ := r
 obtain ⟨⟨hb, hk0⟩, hc1⟩ := hr
 dsimp only at hb hk0 hc1 ⊢
 have far : ∀ (c2 : Dl1Cur) (m : Int), m ≤ n + 3010 → Cu c2 m → OK (cast en_sc_state (A_sc_state c2 b) fun (v : DState × Dl1Cur) => cast en_sc_pick (A_sc_pick v.snd 4) fun (w : Int × Dl1Cur) => L_sc_close_L6_1 v.fst.Units w.snd 0 0 0 0 0 0 0 0 0 b v.fst.Turn v.fst.Weather 0 (List.length v.fst.Units) (List.length v.fst.Units) (IntKind.wrap IntKind.i64 (3 + w.fst))) fun r => ∃ v, r = en_sc_close v ∧ CloseQ (n + 10000) v := by
  intro c2 m hm hc2
  refine koA inj_sc_state (o_sc_state _ _ hk0 hb _ hc2 (by unfold Far; omega)) fun s hs => ?_
  obtain ⟨h2, h8, hc3⟩ := hs
  refine koA inj_sc_pick (o_sc_pick _ _ _ hc3 (by unfold Far; omega)) fun w hw => ?_
  obtain ⟨k, hk⟩ : ∃ k : Nat, 3 + w.1 = k := ⟨(3 + w.1).toNat, by omega⟩
  rw [wrap_id (by omega) (by omega), hk]
  obtain ⟨v, q1, q2⟩ := l_sc_close_L6_1 b hb 0 0 0 0 0 0 0 0 0 s.1.Turn s.1.Weather k s.1.Units w.2 (m + 2000 + 2) (by omega) (by omega) hw.2.2.to (by unfold Far; omega)
  exact ⟨_, q1, v, rfl, q2.1, q2.2.1, q2.2.2.1, q2.2.2.2.to⟩
 rw [cast_of inj_spec_mSize (c_spec_mSize _)]
 refine OK.ite (fun _ => ?_) (fun _ => far c1 _ (by omega) hc1)
 refine koA inj_sc_one (o_sc_one _ _ _ hc1 (by unfold Far; omega)) fun o ho => ?_
 refine OK.ite (fun _ => ?_) (fun _ => far o.2 _ (by omega) ho)
 rw [mkA_z rt_cI (z := 0) (by kernel_rfl) rfl (by omega) (by omega) (by omega)]
 have h9 : (List.replicate (9 : Int).toNat (0 : Int)).length = 9 := by simp
 generalize List.replicate (9 : Int).toNat (0 : Int) = ter at h9 ⊢
 refine OK.cast inj_board (a := ⟨⟨b.Rules.Terrains, b.Rules.Kinds, b.Rules.Stack, b.Rules.River, b.Rules.Road, b.Rules.Supply, b.Rules.Turns⟩, ⟨3, 3, ter, [], []⟩⟩) (gvB rfl) ?_
 have hb2 : BoardN ⟨⟨b.Rules.Terrains, b.Rules.Kinds, b.Rules.Stack, b.Rules.River, b.Rules.Road, b.Rules.Supply, b.Rules.Turns⟩, ⟨3, 3, ter, [], []⟩⟩ := ⟨hb.r, ⟨by show ter.length < _; omega, by show ([] : List Int).length < _; simp, by show ([] : List Int).length < _; simp⟩⟩
 refine koA inj_sc_state (o_sc_state _ ⟨⟨b.Rules.Terrains, b.Rules.Kinds, b.Rules.Stack, b.Rules.River, b.Rules.Road, b.Rules.Supply, b.Rules.Turns⟩, ⟨3, 3, ter, [], []⟩⟩ hk0 hb2 _ ho (by unfold Far; omega)) fun s hs => ?_
 obtain ⟨h2, h8, hc3⟩ := hs
 rw [gd_eq imm_cUnit]
 refine koA inj_sc_pick (o_sc_pick _ _ _ hc3 (by unfold Far; omega)) fun w hw => ?_
 obtain ⟨k, hk⟩ : ∃ k : Nat, 3 + w.1 = k := ⟨(3 + w.1).toNat, by omega⟩
 rw [wrap_id (by omega) (by omega), hk]
 obtain ⟨v, q1, q2⟩ := l_sc_close_L6 ter (by omega) b.Rules.Terrains b.Rules.Kinds b.Rules.Stack b.Rules.River b.Rules.Road b.Rules.Supply b.Rules.Turns 3 3 hb.r 0 0 0 0 0 0 0 0 0 s.1.Turn s.1.Weather k s.1.Units w.2 (n + 6000) (by omega) (by omega) hw.2.2.to (by unfold Far; omega)
 exact ⟨_, q1, v, rfl, q2.1, q2.2.1, q2.2.2.1, q2.2.2.2.to⟩
abbrev BeatQ (n : Int) (v : (DBoard × DState × Int) × Dl1Cur) : Prop := BoardN v.1.1 ∧ v.1.2.1.Units.length ≤ 20 ∧ Cu v.2 n
theorem l_sc_beaten_L4 (b : DBoard) (s : DState) (hb : BoardN b) (h1 : 1 ≤ s.Units.length) (h20 : s.Units.length ≤ 20) (c : Dl1Cur) (n : Int) (hc : Cu c n) (hn : n ≤ Far - 700000) (a2 a3 a4 a5 a6 a7 a8 s0 s1 : Int) : ∀ (m i : Nat) (u : Int), i + m = s.Units.length → 0 ≤ u → u < s.Units.length →
  ∃ v, L_sc_beaten_L4 c a2 a3 a4 a5 a6 a7 a8 s0 s1 b s u i = some (en_sc_beaten v) ∧ BeatQ (n + 21000) v := by
 unfold Far at hn
 have fin : ∀ (u : Int) (k : Nat), s.Units.length ≤ k → OK (P_sc_beaten_L4 c a2 a3 a4 a5 a6 a7 a8 s0 s1 b s u k) fun r => ∃ v, r = en_sc_beaten v ∧ BeatQ (n + 21000) v := by
  intro u k hk
  unfold P_sc_beaten_L4
  rw [if_neg (by simp; omega)]
  refine koA inj_sc_pick (o_sc_pick _ _ _ hc (by unfold Far; omega)) fun p hp => ?_
  refine OK.ite (fun _ => ?_) (fun _ => OK.ite (fun _ => ?_) (fun _ => ?_))
  ·refine OK.cast (slc_inj ok_cI) (a := [-1, (s.Units.length : Int)]) rfl ?_
   refine koA inj_sc_among (o_sc_among _ _ _ hp.2.2 (by unfold Far; omega) (by simp)) fun q hq => ?_
   exact OK.some ⟨((_, _, _), _), rfl, hb, h20, hq.2.to⟩
  ·refine koA inj_sc_game (o_sc_game _ _ hp.2.2 (by unfold Far; omega)) fun g hg => ?_
   exact OK.cast inj_bsi (a := (g.1.1, g.1.2, u)) (gvTup (gvVs_cons rfl (gvVs_cons (gvState' rfl rfl) (gvVs_cons rfl rfl)))) (OK.some ⟨((_, _, _), _), rfl, hg.1, hg.2.2.1, hg.2.2.2.to⟩)
  ·exact OK.some ⟨((_, _, _), _), rfl, hb, h20, hp.2.2.to⟩
 intro m
 induction m with
 | zero =>
  intro i u hi h0 hu
  exact okA (e_sc_beaten_L4 _ _ _ _ _ _ _ _ _ _ _ _ _ _) (fin u i (by omega))
 | succ m ih =>
  intro i u hi h0 hu
  refine okA (e_sc_beaten_L4 _ _ _ _ _ _ _ _ _ _ _ _ _ _) ?_
  have hf := fin u s.Units.length (Nat.le_refl _)
  unfold P_sc_beaten_L4 at hf ⊢
  rw [if_neg (by simp)] at hf
  obtain ⟨x, hx⟩ := getI_ex (l := s.Units) h0 hu
  rw [if_pos (by simp; omega), ixA_get sl_cUnit _ _ hx]
  refine OK.ite (fun _ => ?_) (fun _ => hf)
  rw [if_neg (by omega), wrap_id (n := u + 1) (by omega) (by omega), wrap_id (n := (i : Int) + 1) (by omega) (by omega)]
  have t0 := Int.tmod_nonneg (s.Units.length : Int) (show 0 ≤ u + 1 by omega)
  have t1 := Int.tmod_lt_of_pos (u + 1) (show (0 : Int) < s.Units.length by omega)
  obtain ⟨v, q1, q2⟩ := ih (i + 1) ((u + 1).tmod s.Units.length) (by omega) t0 t1
  exact ⟨_, q1, v, rfl, q2⟩
theorem o_sc_beaten (c : Dl1Cur) (n : Int) (hc : Cu c n) (hn : n ≤ Far - 800000) : ∃ v, A_sc_beaten c = some (en_sc_beaten v) ∧ BeatQ (n + 40000) v := by
 refine okA (e_sc_beaten _) ?_
 unfold Far at hn
 refine koA inj_sc_close (o_sc_close _ _ hc (by unfold Far; omega)) fun r hr => ?_
 obtain ⟨⟨b, s⟩, c1⟩ := r
 obtain ⟨hb, h1, h20, hc1⟩ := hr
 dsimp only at hb h1 h20 hc1 ⊢
 refine koA inj_sc_pick (o_sc_pick _ _ _ hc1 (by unfold Far; omega)) fun p hp => ?_
 obtain ⟨v, q1, q2⟩ := l_sc_beaten_L4 b s hb h1 h20 p.2 (n + 10000 + 2) hp.2.2 (by unfold Far; omega) 0 0 0 0 0 0 0 0 0 s.Units.length 0 p.1 (by omega) hp.1 (by omega)
 exact ⟨_, q1, v, rfl, q2.1, q2.2.1, q2.2.2.to⟩
theorem bsA_two {α γ : Type} {G : Cfg} {inl : Bool} {c : α → List AV} (hc : COk c 1) {σ : Store} {t : Nat} {ty : TypeId} (hT : ∃ et z, slT G.P ty = some et ∧ szT G.P et = some 1 ∧ zeroT G.P et = some z ∧ z.length = 1) {x y : AV} (hx : x.cellOk = true ∧ x.cells = [x]) (hy : y.cellOk = true ∧ y.cells = [y]) {ids : List Id} {a b : α}
  (hh : handAll inl σ [x, y] = some (c a ++ c b, delAll σ ids, ids)) (hid : (inl && !ids.isEmpty) = inl) (ht : (delAll σ ids).has (.v t) = false) (k : List α → Option γ) : bsA G inl c 1 σ t ty 2 [(0, x), (1, y)] ids k = k [a, b] := by
 obtain ⟨et, z, h1, h2, h3, h4⟩ := hT
 unfold bsA
 refine cast_of (fun l m he => ?_) ?_ k
 ·injection he with _ h6
  have h8 : (((delAll σ ids).put (.v t) (rowB true inl 1 c l)).get? (.v t)) = (((delAll σ ids).put (.v t) (rowB true inl 1 c m)).get? (.v t)) := by rw [h6]
  rw [get_put_same, get_put_same] at h8
  injection h8 with h8
  exact (rowB_eq hc (by omega)).1 h8
 ·unfold evBuildSlice
  simp only [h1, h2, h3]
  rw [if_pos ⟨by omega, h4⟩]
  obtain ⟨z0, rfl⟩ : ∃ z0, z = [z0] := by
   match z, h4 with
   | [z0], _ => exact ⟨z0, rfl⟩
  have hf : fillA (fun i => some (i * 1, 1)) (repl 2 [z0]) [(0, x), (1, y)] = some [x, y] := by
   have hr : repl 2 [z0] = [z0, z0] := by simp [repl]
   rw [hr]
   simp only [fillA, Nat.zero_mul, Nat.zero_add, Nat.one_mul]
   rw [if_pos ⟨hx.1, by rw [hx.2]; rfl, by simp⟩, hx.2]
   simp only [putAt, List.take_zero, List.nil_append, List.length_cons, List.length_nil, Nat.zero_add, List.drop_succ_cons, List.drop_zero, List.cons_append]
   rw [if_pos ⟨hy.1, by rw [hy.2]; rfl, by simp⟩, hy.2]
   rfl
  rw [hf]
  simp only [hh, ht, if_true]
  rw [hid]
  simp [rowB]
theorem inj_setup : Inj fun a : DSetup => AV.agg [slc cTerrain a.Board.Rules.Terrains, slc cKind a.Board.Rules.Kinds, I a.Board.Rules.Stack, I a.Board.Rules.River, I a.Board.Rules.Road, I a.Board.Rules.Supply, I a.Board.Rules.Turns, I a.Board.Map.Width, I a.Board.Map.Height, slc cI a.Board.Map.Terrain, slc cI a.Board.Map.Rivers, slc cI a.Board.Map.Roads, slc cOdds a.Table.Columns, I a.Table.Dice, slc cLI a.Table.Results, slc cLI a.Climate.Weights, slc cLI a.Sources] := fun a b h => (cSetup_eq a b).1 (by injection h)
theorem TableD.n {t : DCombatTable} (h : TableD t) : TableN t := ⟨by have := h.1; omega, by have := h.2.1; omega, fun r hr => by have := h.2.2 r hr; omega⟩
theorem o_sc_setup (c : Dl1Cur) (b : DBoard) (s : DState) (hb : BoardN b) (hu : s.Units.length ≤ 20) (n : Int) (hc : Cu c n) (hn : n ≤ Far - 100000) : ∃ v, A_sc_setup c b s = some (en_sc_setup v) ∧ ((SetupN v.1 ∧ v.1.Sources.length = 2) ∧ Cu v.2 (n + 5000)) := by
 refine okA (e_sc_setup _ _ _) ?_
 unfold Far at hn
 refine koA inj_sc_climate (o_sc_climate _ _ hc (by unfold Far; omega)) fun w hw => ?_
 obtain ⟨⟨W⟩, c1⟩ := w
 obtain ⟨hwl, hwr, hc1⟩ := hw
 dsimp only at hwl hwr hc1 ⊢
 refine koA inj_sc_sources (o_sc_sources _ _ _ hb hu _ hc1 (by unfold Far; omega)) fun p hp => ?_
 refine koA inj_sc_sources (o_sc_sources _ _ _ hb hu _ hp.2 (by unfold Far; omega)) fun q hq => ?_
 rw [bsA_two ok_cLI (by obtain ⟨et, z, h1, h2, _, h3, h4⟩ := rt_cLI.ex; exact ⟨et, z, h1, h2, h3, h4⟩) (ids := [.r 14 0, .r 18 0]) (a := p.1.1) (b := q.1.1) ⟨rfl, rfl⟩ ⟨rfl, rfl⟩ (haC (i1 := [.r 14 0]) (i2 := [.r 18 0]) (haF ok_cI rfl (by omega)) (haC (i1 := [.r 18 0]) (i2 := []) (haF ok_cI rfl (by omega)) rfl rfl) rfl) rfl rfl]
 refine koA inj_sc_combatTable (o_sc_combatTable _ _ hq.2 (by unfold Far; omega)) fun t ht => ?_
 refine OK.cast inj_setup (a := ⟨b, t.1, ⟨W⟩, [p.1.1, q.1.1]⟩) (gvT (gvL_cons rfl (gvL_cons rfl (gvL_cons rfl (gvL_cons rfl (gvL_cons rfl (gvL_cons rfl (gvL_cons rfl (gvL_cons rfl (gvL_cons rfl (gvL_cons rfl (gvL_cons rfl (gvL_cons rfl (gvL_cons rfl (gvL_cons rfl (gvL_cons rfl (gvL_cons (giveLL0 rfl rfl) (gvL_cons (giveUp_at ok_cLI (l := [p.1.1, q.1.1]) rfl) rfl)))))))))))))))))) ?_
 refine OK.some ⟨(_, _), rfl, ⟨⟨hb, ht.1.n, by show W.length < _; omega, fun r hr => by rw [hwr r hr]; omega, fun l hl => ?_, by simp⟩, rfl⟩, ht.2.to⟩
 simp only [List.mem_cons, List.not_mem_nil, or_false] at hl
 rcases hl with e | e
 ·rw [e]; exact hp.1
 ·rw [e]; exact hq.1
theorem inj_xs : Inj fun a : DSetup × DState => AV.tup [AV.agg [slc cTerrain a.fst.Board.Rules.Terrains, slc cKind a.fst.Board.Rules.Kinds, I a.fst.Board.Rules.Stack, I a.fst.Board.Rules.River, I a.fst.Board.Rules.Road, I a.fst.Board.Rules.Supply, I a.fst.Board.Rules.Turns, I a.fst.Board.Map.Width, I a.fst.Board.Map.Height, slc cI a.fst.Board.Map.Terrain, slc cI a.fst.Board.Map.Rivers, slc cI a.fst.Board.Map.Roads, slc cOdds a.fst.Table.Columns, I a.fst.Table.Dice, slc cLI a.fst.Table.Results, slc cLI a.fst.Climate.Weights, slc cLI a.fst.Sources], AV.agg [I a.snd.Turn, I a.snd.Weather, slc cUnit a.snd.Units]] := fun a b h => by
 injection h with h
 injection h with h1 h
 injection h with h2 h
 exact Prod.ext (inj_setup _ _ h1) (inj_state _ _ h2)
theorem o_sc_match (c : Dl1Cur) (n : Int) (hc : Cu c n) (hn : n ≤ Far - 900000) : ∃ v, A_sc_match c = some (en_sc_match v) ∧ (SetupN v.1.1 ∧ v.1.2.Units.length ≤ 20 ∧ Cu v.2 (n + 50000)) := by
 refine okA (e_sc_match _) ?_
 unfold Far at hn
 refine koA inj_sc_close (o_sc_close _ _ hc (by unfold Far; omega)) fun r hr => ?_
 obtain ⟨⟨b, s⟩, c1⟩ := r
 obtain ⟨hb, h1, h20, hc1⟩ := hr
 dsimp only at hb h1 h20 hc1 ⊢
 refine koA inj_sc_setup (o_sc_setup _ _ _ hb h20 _ hc1 (by unfold Far; omega)) fun x hx => ?_
 obtain ⟨x, c2⟩ := x
 obtain ⟨⟨hx, hx2⟩, hc2⟩ := hx
 dsimp only at hx hx2 hc2 ⊢
 refine koA inj_sc_pick (o_sc_pick _ _ _ hc2 (by unfold Far; omega)) fun p hp => ?_
 refine OK.ite (fun _ => ?_) (fun _ => OK.ite (fun _ => ?_) (fun _ => OK.ite (fun _ => ?_) (fun _ => OK.ite (fun _ => ?_) (fun _ => ?_))))
 ·refine koA inj_sc_game (o_sc_game _ _ hp.2.2 (by unfold Far; omega)) fun g hg => ?_
  exact OK.cast inj_xs (a := (⟨g.1.1, x.Table, x.Climate, x.Sources⟩, g.1.2)) (gvTup (gvVs_cons rfl (gvVs_cons (gvState' rfl rfl) rfl))) (OK.some ⟨((_, _), _), rfl, ⟨hg.1, hx.t, hx.w, hx.wl, hx.s, hx.sl⟩, hg.2.2.1, hg.2.2.2.to⟩)
 ·refine koA inj_sc_anyClimate (o_sc_anyClimate _ _ hp.2.2 (by unfold Far; omega)) fun w hw => ?_
  exact OK.some ⟨((_, _), _), rfl, ⟨hx.b, hx.t, by have := hw.1.1; show w.1.Weights.length < _; omega, fun r hr => by have := hw.1.2 r hr; omega, hx.s, hx.sl⟩, h20, hw.2.to⟩
 ·refine OK.eq (slF_lo rt_cLI (i := 1) (j := 1) rfl (by omega) _) ?_
  refine OK.some ⟨((_, _), _), rfl, ⟨hx.b, hx.t, hx.w, hx.wl, fun l hl => hx.s l (List.mem_of_mem_drop hl), ?_⟩, h20, hp.2.2.to⟩
  show (x.Sources.drop 1).length ≤ 2
  rw [List.length_drop]
  omega
 ·refine OK.cast (slc_inj ok_cI) (a := [0, 3]) rfl ?_
  refine koA inj_sc_among (o_sc_among _ _ _ hp.2.2 (by unfold Far; omega) (by simp)) fun q hq => ?_
  exact OK.some ⟨((_, _), _), rfl, ⟨hx.b, ⟨hx.t.c, hx.t.r, hx.t.l⟩, hx.w, hx.wl, hx.s, hx.sl⟩, h20, hq.2.to⟩
 ·exact OK.some ⟨((_, _), _), rfl, hx, h20, hp.2.2.to⟩
theorem o_spec_DrawValueOf (x : KSl) (h : Arg x) : ∃ v, A_spec_DrawValueOf x = some (en_spec_DrawValueOf v) ∧ (SetupN v.1 ∧ v.2.1.Units.length ≤ 20) := by
 refine okA (e_spec_DrawValueOf _) ?_
 refine koA inj_sc_match (o_sc_match _ 0 h.cu (by unfold Far; omega)) fun r hr => ?_
 refine koA inj_sc_pick (o_sc_pick _ _ _ hr.2.2 (by unfold Far; omega)) fun p hp => ?_
 refine koA inj_sc_pick (o_sc_pick _ _ _ hp.2.2 (by unfold Far; omega)) fun q hq => ?_
 exact OK.some ⟨(_, _, _), rfl, hr.1, hr.2.1⟩
theorem o_laws_big (x y : KSl) : ∃ v, A_laws_big x y = some (en_laws_big v) ∧ True := by
 refine okA (e_laws_big _ _) ?_
 exact OK.ite (fun _ => OK.some ⟨_, rfl, trivial⟩) (fun _ => OK.some ⟨_, rfl, trivial⟩)
abbrev EdF := Nat → Nat → Option (Nat × Int)
def vv (l : List Int) (k : Nat) : Int := l.getD k (-1)
inductive Wk (F : EdF) (s : Nat) : Int → Nat → Prop where
 | nil : Wk F s 0 s
 | cons (n : Int) (k d t : Nat) (c : Int) : Wk F s n k → d < 6 → F k d = some (t, c) → Wk F s (n + c) t
structure EdOk (F : EdF) (N : Nat) (C : Int) : Prop where
 c0 : 0 ≤ C
 e : ∀ k d t c, F k d = some (t, c) → t < N ∧ 1 ≤ c ∧ c ≤ C
structure Good (F : EdF) (N s : Nat) (l : List Int) : Prop where
 len : l.length = N
 sN : s < N
 src : vv l s = 0
 wk : ∀ k, 0 ≤ vv l k → Wk F s (vv l k) k
 neg : ∀ k, -1 ≤ vv l k
def satE (F : EdF) (l : List Int) (k d : Nat) : Prop := ∀ t c, F k d = some (t, c) → 0 ≤ vv l k → 0 ≤ vv l t ∧ vv l t ≤ vv l k + c
def ClosedE (F : EdF) (l : List Int) : Prop := ∀ k d, d < 6 → satE F l k d
theorem vv_set {l : List Int} {t k : Nat} {z : Int} (ht : t < l.length) : vv (l.set t z) k = if k = t then z else vv l k := by
 unfold vv
 rw [List.getD_eq_getElem?_getD, List.getD_eq_getElem?_getD, List.getElem?_set]
 by_cases h : k = t
 ·subst h
  rw [if_pos rfl, if_pos rfl, if_pos ht]
  rfl
 ·rw [if_neg (fun e => h e.symm), if_neg h]
theorem vv_get {l : List Int} {k : Nat} (h : k < l.length) : l[k]? = some (vv l k) := by
 unfold vv
 rw [List.getD_eq_getElem?_getD, List.getElem?_eq_getElem h]
 rfl
theorem vv_out {l : List Int} {k : Nat} (h : l.length ≤ k) : vv l k = -1 := by
 unfold vv
 rw [List.getD_eq_getElem?_getD, List.getElem?_eq_none h]
 rfl
theorem walk_le {F : EdF} {N s : Nat} {l : List Int} (g : Good F N s l) (hc : ClosedE F l) {n : Int} {k : Nat} (h : Wk F s n k) : 0 ≤ vv l k ∧ vv l k ≤ n := by
 induction h with
 | nil => rw [g.src]; omega
 | cons n k d t c _ hd he ih =>
  have := hc k d hd t c he ih.1
  omega
theorem dist_unique {F : EdF} {N s : Nat} {A B : List Int} (ga : Good F N s A) (ca : ClosedE F A) (gb : Good F N s B) (cb : ClosedE F B) : A = B := by
 refine List.ext_getElem? fun k => ?_
 by_cases hk : k < N
 ·rw [vv_get (by rw [ga.len]; exact hk), vv_get (by rw [gb.len]; exact hk)]
  congr 1
  have na := ga.neg k
  have nb := gb.neg k
  by_cases h1 : 0 ≤ vv A k
  ·have := walk_le gb cb (ga.wk k h1)
   have := walk_le ga ca (gb.wk k this.1)
   omega
  ·by_cases h2 : 0 ≤ vv B k
   ·have := walk_le ga ca (gb.wk k h2)
    omega
   ·omega
 ·rw [List.getElem?_eq_none (by rw [ga.len]; omega), List.getElem?_eq_none (by rw [gb.len]; omega)]
theorem Good.upd {F : EdF} {N s : Nat} {C : Int} {l : List Int} (ok : EdOk F N C) (g : Good F N s l) {k d t : Nat} {c : Int} (hd : d < 6) (he : F k d = some (t, c)) (hk : 0 ≤ vv l k) (hu : vv l t < 0 ∨ vv l k + c < vv l t) : Good F N s (l.set t (vv l k + c)) := by
 obtain ⟨ht, hc1, hc2⟩ := ok.e k d t c he
 have htl : t < l.length := by rw [g.len]; exact ht
 have hts : s ≠ t := fun e => by
  subst e
  have := g.src
  omega
 refine ⟨by rw [List.length_set]; exact g.len, g.sN, by rw [vv_set htl, if_neg hts]; exact g.src, fun j hj => ?_, fun j => ?_⟩
 ·rw [vv_set htl] at hj ⊢
  by_cases h : j = t
  ·rw [if_pos h, h]; exact .cons _ k d t c (g.wk k hk) hd he
  ·rw [if_neg h] at hj ⊢; exact g.wk j hj
 ·rw [vv_set htl]
  split
  ·omega
  ·exact g.neg j
theorem good_init (F : EdF) {N s : Nat} (hs : s < N) : Good F N s ((List.replicate N (-1)).set s 0) := by
 have hv : ∀ k, vv ((List.replicate N (-1)).set s 0) k = if k = s then 0 else -1 := fun k => by
  rw [vv_set (by simpa using hs)]
  split
  ·rfl
  ·by_cases hk : k < N
   ·unfold vv; rw [List.getD_eq_getElem?_getD, List.getElem?_replicate, if_pos hk]; rfl
   ·exact vv_out (by simp; omega)
 refine ⟨by simp, hs, by rw [hv, if_pos rfl], fun k hk => ?_, fun k => ?_⟩
 ·rw [hv] at hk ⊢
  by_cases h : k = s
  ·rw [if_pos h, h]; exact .nil
  ·rw [if_neg h] at hk; omega
 ·rw [hv]; split <;> omega
abbrev StR := List Int × Bool
def relU (F : EdF) (st : StR) (k d : Nat) : StR := match F k d with
 | none => st
 | some (t, c) => if 0 ≤ vv st.1 k ∧ (vv st.1 t < 0 ∨ vv st.1 k + c < vv st.1 t) then (st.1.set t (vv st.1 k + c), true) else st
def relK (F : EdF) (st : StR) (k : Nat) : StR := (List.range 6).foldl (fun st d => relU F st k d) st
def relA (F : EdF) (l : List Int) : StR := (List.range l.length).foldl (relK F) (l, false)
def runR (F : EdF) : Nat → List Int → List Int
 | 0, l => l
 | f + 1, l => if (relA F l).2 then runR F f (relA F l).1 else (relA F l).1
def mu (M : Int) (l : List Int) : Int := sumI (fun v => if v < 0 then M else v) l
theorem sum_set {f : Int → Int} : ∀ {l : List Int} {t : Nat} {v z : Int}, l[t]? = some v → sumI f (l.set t z) = sumI f l - f v + f z
 | [], t, v, z, h => by simp at h
 | x :: r, 0, v, z, h => by
  simp at h
  subst h
  rw [List.set_cons_zero]
  unfold sumI
  omega
 | x :: r, t + 1, v, z, h => by
  have := sum_set (f := f) (l := r) (t := t) (v := v) (z := z) (by simpa using h)
  rw [List.set_cons_succ]
  unfold sumI
  omega
def Bd (C : Int) (l : List Int) : Prop := ∀ v ∈ l, v ≤ C * ((l.length : Int) - 1 - (negs l : Int))
theorem Bd.top {C : Int} {l : List Int} (hc : 0 ≤ C) (h : Bd C l) {v : Int} (hv : v ∈ l) : v ≤ C * ((l.length : Int) - 1) := by
 have h1 := h v hv
 have : C * ((l.length : Int) - 1 - (negs l : Int)) ≤ C * ((l.length : Int) - 1) := Int.mul_le_mul_of_nonneg_left (by omega) hc
 omega
theorem Bd.upd {F : EdF} {N s : Nat} {C : Int} {l : List Int} (ok : EdOk F N C) (g : Good F N s l) (hb : Bd C l) {k d t : Nat} {c : Int} (he : F k d = some (t, c)) (hk : 0 ≤ vv l k) (hu : vv l t < 0 ∨ vv l k + c < vv l t) : Bd C (l.set t (vv l k + c)) := by
 obtain ⟨ht, hc1, hc2⟩ := ok.e k d t c he
 have htl : t < l.length := by rw [g.len]; exact ht
 have hkl : k < l.length := by
  by_cases h : k < l.length
  ·exact h
  ·rw [vv_out (by omega)] at hk; omega
 have hn := negs_set (vv_get htl) (vv l k + c) (by omega)
 have hkb := hb _ (mem_of_get (vv_get hkl))
 have htb := hb _ (mem_of_get (vv_get htl))
 intro v hv
 rw [List.length_set]
 have mono : ∀ a b : Int, a ≤ b → C * a ≤ C * b := fun a b h => Int.mul_le_mul_of_nonneg_left h ok.c0
 rcases List.mem_or_eq_of_mem_set hv with hv | hv
 ·have h1 := hb v hv
  have h2 := mono ((l.length : Int) - 1 - (negs l : Int)) ((l.length : Int) - 1 - (negs (l.set t (vv l k + c)) : Int)) (by split at hn <;> omega)
  omega
 ·subst hv
  by_cases h0 : vv l t < 0
  ·rw [if_pos h0] at hn
   have h2 : C * ((l.length : Int) - 1 - (negs (l.set t (vv l k + c)) : Int)) = C * ((l.length : Int) - 1 - (negs l : Int)) + C := by
    rw [show ((l.length : Int) - 1 - (negs (l.set t (vv l k + c)) : Int)) = ((l.length : Int) - 1 - (negs l : Int)) + 1 by omega, Int.mul_add, Int.mul_one]
   omega
  ·rw [if_neg h0] at hn
   have : (negs (l.set t (vv l k + c)) : Int) = (negs l : Int) := by omega
   rw [this]
   rcases hu with hu | hu <;> omega
theorem mu_upd {F : EdF} {N s : Nat} {C : Int} {l : List Int} (ok : EdOk F N C) (g : Good F N s l) (hb : Bd C l) {k d t : Nat} {c : Int} (he : F k d = some (t, c)) (hk : 0 ≤ vv l k) (hu : vv l t < 0 ∨ vv l k + c < vv l t) : mu (C * N + 1) (l.set t (vv l k + c)) < mu (C * N + 1) l := by
 obtain ⟨ht, hc1, hc2⟩ := ok.e k d t c he
 have htl : t < l.length := by rw [g.len]; exact ht
 have h2 := (hb.upd ok g he hk hu).top ok.c0 (v := vv l k + c) (List.mem_of_getElem? (by rw [List.getElem?_set_self htl]))
 rw [List.length_set, g.len] at h2
 have h3 : C * ((N : Int) - 1) ≤ C * N := Int.mul_le_mul_of_nonneg_left (by omega) ok.c0
 unfold mu
 rw [sum_set (vv_get htl), if_neg (show ¬ vv l k + c < 0 by omega)]
 split
 ·omega
 ·rcases hu with hu | hu <;> omega
structure PI (F : EdF) (N s : Nat) (C : Int) (l0 : List Int) (seen : Nat → Nat → Prop) (st : StR) : Prop where
 g : Good F N s st.1
 b : Bd C st.1
 m : mu (C * N + 1) st.1 ≤ mu (C * N + 1) l0
 yes : st.2 = true → mu (C * N + 1) st.1 < mu (C * N + 1) l0
 no : st.2 = false → st.1 = l0 ∧ ∀ k d, seen k d → satE F l0 k d
theorem PI.step {F : EdF} {N s : Nat} {C : Int} {l0 : List Int} (ok : EdOk F N C) {seen : Nat → Nat → Prop} {st : StR} (h : PI F N s C l0 seen st) (k d : Nat) (hd : d < 6) : PI F N s C l0 (fun a b => seen a b ∨ a = k ∧ b = d) (relU F st k d) := by
 unfold relU
 cases he : F k d with
 | none =>
  refine ⟨h.g, h.b, h.m, h.yes, fun hn => ⟨(h.no hn).1, fun a b hab => ?_⟩⟩
  rcases hab with hab | ⟨rfl, rfl⟩
  ·exact (h.no hn).2 a b hab
  ·intro t c he2; rw [he] at he2; cases he2
 | some p =>
  obtain ⟨t, c⟩ := p
  dsimp only
  by_cases hu : 0 ≤ vv st.1 k ∧ (vv st.1 t < 0 ∨ vv st.1 k + c < vv st.1 t)
  ·rw [if_pos hu]
   have := mu_upd ok h.g h.b he hu.1 hu.2
   have := h.m
   exact ⟨h.g.upd ok hd he hu.1 hu.2, h.b.upd ok h.g he hu.1 hu.2, by dsimp only; omega, fun _ => by dsimp only; omega, fun hn => by cases hn⟩
  ·rw [if_neg hu]
   refine ⟨h.g, h.b, h.m, h.yes, fun hn => ⟨(h.no hn).1, fun a b hab => ?_⟩⟩
   rcases hab with hab | ⟨rfl, rfl⟩
   ·exact (h.no hn).2 a b hab
   ·intro t2 c2 he2 h0
    rw [he] at he2
    cases he2
    rw [(h.no hn).1] at hu
    have := ok.e _ _ _ _ he
    omega
theorem PI.imp {F : EdF} {N s : Nat} {C : Int} {l0 : List Int} {p q : Nat → Nat → Prop} {st : StR} (h : PI F N s C l0 p st) (hpq : ∀ a b, q a b → p a b) : PI F N s C l0 q st :=
 ⟨h.g, h.b, h.m, h.yes, fun hn => ⟨(h.no hn).1, fun a b hab => (h.no hn).2 a b (hpq a b hab)⟩⟩
theorem PI.pass {F : EdF} {N s : Nat} {C : Int} {l0 : List Int} (ok : EdOk F N C) (g : Good F N s l0) (hb : Bd C l0) : PI F N s C l0 (fun k d => k < N ∧ d < 6) (relA F l0) := by
 have inner : ∀ (seen : Nat → Nat → Prop) (k : Nat) (st : StR), PI F N s C l0 seen st → PI F N s C l0 (fun a b => seen a b ∨ a = k ∧ b < 6) (relK F st k) := by
  intro seen k st h
  have := fold_inv (fun st d => relU F st k d) (fun pre st => (∀ d ∈ pre, d < 6) → PI F N s C l0 (fun a b => seen a b ∨ a = k ∧ b ∈ pre) st) (fun pre x st ih hp => by
   have := (ih fun d hd => hp d (List.mem_append_left _ hd)).step ok k x (hp x (by simp))
   refine this.imp fun a b hab => ?_
   rcases hab with hab | ⟨rfl, hb⟩
   ·exact .inl (.inl hab)
   ·rcases List.mem_append.1 hb with hb | hb
    ·exact .inl (.inr ⟨rfl, hb⟩)
    ·exact .inr ⟨rfl, List.mem_singleton.1 hb⟩) (List.range 6) [] st (fun _ => h.imp fun a b hab => by
     rcases hab with hab | ⟨_, hb⟩
     ·exact hab
     ·cases hb)
  rw [List.nil_append] at this
  refine (this fun d hd => List.mem_range.1 hd).imp fun a b hab => ?_
  rcases hab with hab | ⟨h1, h2⟩
  ·exact .inl hab
  ·exact .inr ⟨h1, List.mem_range.2 h2⟩
 have h0 : PI F N s C l0 (fun _ _ => False) (l0, false) := ⟨g, hb, Int.le_refl _, fun h => (by cases h), fun _ => ⟨rfl, fun _ _ h => h.elim⟩⟩
 have := fold_inv (relK F) (fun pre st => PI F N s C l0 (fun a b => a ∈ pre ∧ b < 6) st) (fun pre x st ih => by
  refine (inner _ x st ih).imp fun a b hab => ?_
  rcases List.mem_append.1 hab.1 with h | h
  ·exact .inl ⟨h, hab.2⟩
  ·exact .inr ⟨List.mem_singleton.1 h, hab.2⟩) (List.range l0.length) [] (l0, false) (h0.imp fun a b hab => by cases hab.1)
 rw [List.nil_append] at this
 exact this.imp fun a b hab => ⟨List.mem_range.2 (by rw [g.len]; exact hab.1), hab.2⟩
theorem mu_nonneg {M : Int} (hM : 0 ≤ M) (l : List Int) : 0 ≤ mu M l := by
 unfold mu
 induction l with
 | nil => exact Int.le_refl _
 | cons x r ih =>
  unfold sumI
  split <;> omega
theorem run_ok {F : EdF} {N s : Nat} {C : Int} (ok : EdOk F N C) : ∀ (f : Nat) (l : List Int), Good F N s l → Bd C l → mu (C * N + 1) l < f → Good F N s (runR F f l) ∧ ClosedE F (runR F f l)
 | 0, l, _, _, hm => by
  have := mu_nonneg (M := C * N + 1) (by have := Int.mul_nonneg ok.c0 (show (0 : Int) ≤ N by omega); omega) l
  omega
 | f + 1, l, g, hb, hm => by
  have h := PI.pass ok g hb
  unfold runR
  cases hc : (relA F l).2 with
  | true =>
   rw [if_pos rfl]
   have := h.yes hc
   exact run_ok ok f _ h.g h.b (by omega)
  | false =>
   rw [if_neg (by simp)]
   obtain ⟨h1, h2⟩ := h.no hc
   rw [h1]
   refine ⟨g, fun k d hd => ?_⟩
   by_cases hk : k < N
   ·exact h2 k d ⟨hk, hd⟩
   ·intro t c _ h0
    rw [vv_out (by rw [g.len]; omega)] at h0
    omega
def dn (done : List Bool) (k : Nat) : Bool := done.getD k false
def bestF (l : List Int) (done : List Bool) (best : Int) (k : Nat) : Int := if decide (0 ≤ vv l k) && (!dn done k && (decide (best < 0) || decide (vv l k < vv l best.toNat))) then (k : Int) else best
def bestD (l : List Int) (done : List Bool) : Int := (List.range l.length).foldl (bestF l done) (-1)
theorem best_ok (l : List Int) (done : List Bool) : (bestD l done = -1 ∧ ∀ k, k < l.length → 0 ≤ vv l k → dn done k = true) ∨
  ∃ b : Nat, bestD l done = b ∧ b < l.length ∧ 0 ≤ vv l b ∧ dn done b = false ∧ ∀ k, k < l.length → 0 ≤ vv l k → dn done k = false → vv l b ≤ vv l k := by
 have := fold_inv (bestF l done) (fun pre best => (∀ k ∈ pre, k < l.length) → (best = -1 ∧ ∀ k ∈ pre, 0 ≤ vv l k → dn done k = true) ∨
  ∃ b : Nat, best = b ∧ b < l.length ∧ 0 ≤ vv l b ∧ dn done b = false ∧ ∀ k ∈ pre, 0 ≤ vv l k → dn done k = false → vv l b ≤ vv l k) (fun pre x best ih hp => by
  have hx := hp x (by simp)
  have ih := ih fun k hk => hp k (List.mem_append_left _ hk)
  unfold bestF
  by_cases h0 : 0 ≤ vv l x
  ·cases hd : dn done x with
   | true =>
    rw [if_neg (by simp)]
    rcases ih with ⟨h1, h2⟩ | ⟨b, h1, h2, h3, h4, h5⟩
    ·refine .inl ⟨h1, fun k hk hk0 => ?_⟩
     rcases List.mem_append.1 hk with hk | hk
     ·exact h2 k hk hk0
     ·rw [List.mem_singleton.1 hk]; exact hd
    ·refine .inr ⟨b, h1, h2, h3, h4, fun k hk hk0 hkd => ?_⟩
     rcases List.mem_append.1 hk with hk | hk
     ·exact h5 k hk hk0 hkd
     ·rw [List.mem_singleton.1 hk, hd] at hkd; cases hkd
   | false =>
    rcases ih with ⟨h1, h2⟩ | ⟨b, h1, h2, h3, h4, h5⟩
    ·rw [if_pos (by simp [h0]; omega)]
     refine .inr ⟨x, rfl, hx, h0, hd, fun k hk hk0 hkd => ?_⟩
     rcases List.mem_append.1 hk with hk | hk
     ·rw [h2 k hk hk0] at hkd; cases hkd
     ·rw [List.mem_singleton.1 hk]; exact Int.le_refl _
    ·by_cases hlt : vv l x < vv l b
     ·rw [if_pos (by rw [h1, Int.toNat_natCast]; simp [h0, hlt])]
      refine .inr ⟨x, rfl, hx, h0, hd, fun k hk hk0 hkd => ?_⟩
      rcases List.mem_append.1 hk with hk | hk
      ·have := h5 k hk hk0 hkd; omega
      ·rw [List.mem_singleton.1 hk]; exact Int.le_refl _
     ·rw [if_neg (by rw [h1, Int.toNat_natCast]; simp [hlt])]
      refine .inr ⟨b, h1, h2, h3, h4, fun k hk hk0 hkd => ?_⟩
      rcases List.mem_append.1 hk with hk | hk
      ·exact h5 k hk hk0 hkd
      ·rw [List.mem_singleton.1 hk]; omega
  ·rw [if_neg (by simp [h0])]
   rcases ih with ⟨h1, h2⟩ | ⟨b, h1, h2, h3, h4, h5⟩
   ·refine .inl ⟨h1, fun k hk hk0 => ?_⟩
    rcases List.mem_append.1 hk with hk | hk
    ·exact h2 k hk hk0
    ·rw [List.mem_singleton.1 hk] at hk0; omega
   ·refine .inr ⟨b, h1, h2, h3, h4, fun k hk hk0 hkd => ?_⟩
    rcases List.mem_append.1 hk with hk | hk
    ·exact h5 k hk hk0 hkd
    ·rw [List.mem_singleton.1 hk] at hk0; omega) (List.range l.length) [] (-1) (fun _ => .inl ⟨rfl, fun k hk => by cases hk⟩)
 rw [List.nil_append] at this
 rcases this fun k hk => List.mem_range.1 hk with ⟨h1, h2⟩ | ⟨b, h1, h2, h3, h4, h5⟩
 ·exact .inl ⟨h1, fun k hk => h2 k (List.mem_range.2 hk)⟩
 ·exact .inr ⟨b, h1, h2, h3, h4, fun k hk => h5 k (List.mem_range.2 hk)⟩
def relD (F : EdF) (b : Nat) (l : List Int) (d : Nat) : List Int := match F b d with
 | none => l
 | some (t, c) => if vv l t < 0 ∨ vv l b + c < vv l t then l.set t (vv l b + c) else l
def relB (F : EdF) (l : List Int) (b : Nat) : List Int := (List.range 6).foldl (relD F b) l
def runD (F : EdF) : Nat → List Int → List Bool → List Int
 | 0, l, _ => l
 | f + 1, l, done => if bestD l done < 0 then l else runD F f (relB F l (bestD l done).toNat) (done.set (bestD l done).toNat true)
structure DI (F : EdF) (N s : Nat) (l : List Int) (done : List Bool) : Prop where
 g : Good F N s l
 n : done.length = N
 r : ∀ k, dn done k = true → 0 ≤ vv l k
 c : ∀ k j, dn done k = true → dn done j = false → 0 ≤ vv l j → vv l k ≤ vv l j
 e : ∀ k d, d < 6 → dn done k = true → satE F l k d
structure DJ (F : EdF) (N s : Nat) (l0 : List Int) (done : List Bool) (b : Nat) (pre : List Nat) (l : List Int) : Prop where
 g : Good F N s l
 same : ∀ k, dn done k = true ∨ k = b → vv l k = vv l0 k
 low : ∀ j, dn done j = false → 0 ≤ vv l j → vv l0 b ≤ vv l j
 dec : ∀ j, 0 ≤ vv l0 j → 0 ≤ vv l j ∧ vv l j ≤ vv l0 j
 sat : ∀ d ∈ pre, satE F l b d
theorem DJ.step {F : EdF} {N s : Nat} {C : Int} (ok : EdOk F N C) {l0 : List Int} {done : List Bool} {b : Nat} (h0 : DI F N s l0 done) (hb : 0 ≤ vv l0 b) (hbd : dn done b = false) {pre : List Nat} {l : List Int} (h : DJ F N s l0 done b pre l) {d : Nat} (hd : d < 6) :
  DJ F N s l0 done b (pre ++ [d]) (relD F b l d) := by
 have hvb : vv l b = vv l0 b := h.same b (.inr rfl)
 unfold relD
 cases he : F b d with
 | none =>
  refine ⟨h.g, h.same, h.low, h.dec, fun x hx => ?_⟩
  rcases List.mem_append.1 hx with hx | hx
  ·exact h.sat x hx
  ·rw [List.mem_singleton.1 hx]
   intro t c he2
   rw [he] at he2
   cases he2
 | some p =>
  obtain ⟨t, c⟩ := p
  obtain ⟨ht, hc1, hc2⟩ := ok.e b d t c he
  have htl : t < l.length := by rw [h.g.len]; exact ht
  dsimp only
  by_cases hu : vv l t < 0 ∨ vv l b + c < vv l t
  ·rw [if_pos hu]
   have htd : dn done t = false := by
    cases hdt : dn done t with
    | false => rfl
    | true =>
     have h1 := h.same t (.inl hdt)
     have h2 := h0.c t b hdt hbd hb
     have h3 := h0.r t hdt
     omega
   have htb : t ≠ b := fun e => by rw [e] at hu; omega
   refine ⟨h.g.upd ok hd he (by omega) hu, fun k hk => ?_, fun j hj hj0 => ?_, fun j hj => ?_, fun x hx => ?_⟩
   ·have hkt : k ≠ t := fun e => by
     subst e
     rcases hk with hk | hk
     ·rw [htd] at hk; cases hk
     ·exact htb hk
    rw [vv_set htl, if_neg hkt]
    exact h.same k hk
   ·rw [vv_set htl] at hj0 ⊢
    split
    ·omega
    ·rename_i hne
     rw [if_neg hne] at hj0
     exact h.low j hj hj0
   ·have := h.dec j hj
    rw [vv_set htl]
    split
    ·rename_i e
     subst e
     omega
    ·exact this
   ·have hold : ∀ x ∈ pre, satE F (l.set t (vv l b + c)) b x := fun x hx t2 c2 he2 _ => by
     have hs := h.sat x hx t2 c2 he2 (by omega)
     rw [vv_set htl, vv_set htl, if_neg (fun e : b = t => htb e.symm)]
     split
     ·rename_i e
      subst e
      omega
     ·exact hs
    rcases List.mem_append.1 hx with hx | hx
    ·exact hold x hx
    ·rw [List.mem_singleton.1 hx]
     intro t2 c2 he2 _
     rw [he] at he2
     cases he2
     rw [vv_set htl, vv_set htl, if_pos rfl, if_neg (fun e : b = t => htb e.symm)]
     omega
  ·rw [if_neg hu]
   refine ⟨h.g, h.same, h.low, h.dec, fun x hx => ?_⟩
   rcases List.mem_append.1 hx with hx | hx
   ·exact h.sat x hx
   ·rw [List.mem_singleton.1 hx]
    intro t2 c2 he2 _
    rw [he] at he2
    cases he2
    omega
theorem dn_set {done : List Bool} {b k : Nat} (hb : b < done.length) : dn (done.set b true) k = if k = b then true else dn done k := by
 unfold dn
 rw [List.getD_eq_getElem?_getD, List.getD_eq_getElem?_getD, List.getElem?_set]
 by_cases h : k = b
 ·subst h
  rw [if_pos rfl, if_pos rfl, if_pos hb]
  rfl
 ·rw [if_neg (fun e => h e.symm), if_neg h]
theorem DI.step {F : EdF} {N s : Nat} {C : Int} (ok : EdOk F N C) {l : List Int} {done : List Bool} (h : DI F N s l done) {b : Nat} (hbN : b < l.length) (hb : 0 ≤ vv l b) (hbd : dn done b = false) (hmin : ∀ k, k < l.length → 0 ≤ vv l k → dn done k = false → vv l b ≤ vv l k) :
  DI F N s (relB F l b) (done.set b true) := by
 have hj0 : DJ F N s l done b [] l := ⟨h.g, fun _ _ => rfl, fun j hj hj0 => hmin j (by
  by_cases hjl : j < l.length
  ·exact hjl
  ·rw [vv_out (by omega)] at hj0; omega) hj0 hj, fun j hj => ⟨hj, Int.le_refl _⟩, fun d hd => by cases hd⟩
 have := fold_inv (relD F b) (fun pre l' => (∀ d ∈ pre, d < 6) → DJ F N s l done b pre l') (fun pre x l' ih hp => (ih fun d hd => hp d (List.mem_append_left _ hd)).step ok h hb hbd (hp x (by simp))) (List.range 6) [] l (fun _ => hj0)
 rw [List.nil_append] at this
 have hj : DJ F N s l done b (List.range 6) (relB F l b) := this fun d hd => List.mem_range.1 hd
 have hbl : b < done.length := by rw [h.n, ← h.g.len]; exact hbN
 have hvb : vv (relB F l b) b = vv l b := hj.same b (.inr rfl)
 refine ⟨hj.g, by rw [List.length_set]; exact h.n, fun k hk => ?_, fun k j hk hjd hj0 => ?_, fun k d hd hk => ?_⟩
 ·rw [dn_set hbl] at hk
  by_cases e : k = b
  ·subst e; omega
  ·rw [if_neg e] at hk
   have := h.r k hk
   exact (hj.dec k this).1
 ·rw [dn_set hbl] at hk hjd
  by_cases ej : j = b
  ·rw [if_pos ej] at hjd; cases hjd
  ·rw [if_neg ej] at hjd
   have h1 := hj.low j hjd hj0
   by_cases e : k = b
   ·subst e; omega
   ·rw [if_neg e] at hk
    have h2 := hj.same k (.inl hk)
    have h3 := h.c k b hk hbd hb
    omega
 ·rw [dn_set hbl] at hk
  by_cases e : k = b
  ·subst e
   exact hj.sat d (List.mem_range.2 hd)
  ·rw [if_neg e] at hk
   intro t c he h0
   have h2 := hj.same k (.inl hk)
   have h3 := h.e k d hd hk t c he (by omega)
   have h4 := hj.dec t h3.1
   omega
def leftD (done : List Bool) : Nat := (done.filter fun x => !x).length
theorem left_set : ∀ {done : List Bool} {b : Nat}, b < done.length → dn done b = false → leftD (done.set b true) + 1 = leftD done
 | [], b, h, _ => by simp at h
 | x :: r, 0, _, hd => by
  have : x = false := hd
  subst this
  rw [List.set_cons_zero]
  unfold leftD
  simp
 | x :: r, b + 1, h, hd => by
  have := left_set (done := r) (b := b) (by simpa using h) hd
  rw [List.set_cons_succ]
  unfold leftD at this ⊢
  cases x <;> simp at this ⊢ <;> omega
theorem runD_ok {F : EdF} {N s : Nat} {C : Int} (ok : EdOk F N C) : ∀ (f : Nat) (l : List Int) (done : List Bool), DI F N s l done → leftD done < f → Good F N s (runD F f l done) ∧ ClosedE F (runD F f l done)
 | 0, _, _, _, h => by omega
 | f + 1, l, done, h, hf => by
  unfold runD
  rcases best_ok l done with ⟨h1, h2⟩ | ⟨b, h1, h2, h3, h4, h5⟩
  ·rw [h1, if_pos (by decide)]
   refine ⟨h.g, fun k d hd t c he h0 => ?_⟩
   have hkl : k < l.length := by
    by_cases hkl : k < l.length
    ·exact hkl
    ·rw [vv_out (by omega)] at h0; omega
   exact h.e k d hd (h2 k hkl h0) t c he h0
  ·rw [h1, if_neg (by omega), Int.toNat_natCast]
   have hl := left_set (done := done) (b := b) (by rw [h.n, ← h.g.len]; exact h2) h4
   exact runD_ok ok f _ _ (h.step ok h2 h3 h4 h5) (by omega)
theorem DI.init (F : EdF) {N s : Nat} (hs : s < N) : DI F N s ((List.replicate N (-1)).set s 0) (List.replicate N false) := by
 have hd : ∀ k, dn (List.replicate N false) k = false := fun k => by
  unfold dn
  rw [List.getD_eq_getElem?_getD, List.getElem?_replicate]
  split <;> rfl
 exact ⟨good_init F hs, by simp, fun k hk => (by rw [hd] at hk; cases hk), fun k j hk => (by rw [hd] at hk; cases hk), fun k d _ hk => (by rw [hd] at hk; cases hk)⟩
theorem Bd.init {C : Int} {N s : Nat} (hc : 0 ≤ C) (hs : s < N) : Bd C ((List.replicate N (-1)).set s 0) := by
 intro v hv
 have hn : negs ((List.replicate N (-1)).set s 0) + 1 = N := by
  have hg : (List.replicate N (-1 : Int))[s]? = some (-1) := by rw [List.getElem?_replicate, if_pos hs]
  have := negs_set hg 0 (by omega)
  rw [if_pos (by omega)] at this
  have h2 : negs (List.replicate N (-1 : Int)) = N := by
   unfold negs
   rw [List.filter_eq_self.2 fun x hx => by rw [List.eq_of_mem_replicate hx]; rfl]
   simp
  omega
 rw [List.length_set, List.length_replicate, show ((N : Int) - 1 - (negs ((List.replicate N (-1)).set s 0) : Int)) = 0 by omega, Int.mul_zero]
 rcases List.mem_or_eq_of_mem_set hv with h | h
 ·have := List.eq_of_mem_replicate h; omega
 ·omega
def distF (F : EdF) (N s : Nat) : List Int := runD F (N + 1) ((List.replicate N (-1)).set s 0) (List.replicate N false)
theorem dist_ok {F : EdF} {N s : Nat} {C : Int} (ok : EdOk F N C) (hs : s < N) : Good F N s (distF F N s) ∧ ClosedE F (distF F N s) :=
 runD_ok ok _ _ _ (DI.init F hs) (by
  have : leftD (List.replicate N false) ≤ N := by
   unfold leftD
   have := List.length_filter_le (fun x => !x) (List.replicate N false)
   simp at this ⊢
  omega)
theorem run_dist {F : EdF} {N s : Nat} {C : Int} (ok : EdOk F N C) (hs : s < N) {f : Nat} (hf : mu (C * N + 1) ((List.replicate N (-1)).set s 0) < f) : runR F f ((List.replicate N (-1)).set s 0) = distF F N s := by
 obtain ⟨h1, h2⟩ := run_ok ok f _ (good_init F hs) (Bd.init ok.c0 hs) hf
 obtain ⟨h3, h4⟩ := dist_ok ok hs
 exact dist_unique h1 h2 h3 h4
def weatherR (w : Int) : Int := if 0 < w then w - 1 else w
def stepC (b : DBoard) (kind w i d : Int) : Int :=
 if nextL b.Map i d < 0 ∨ costL b kind (nextL b.Map i d) = 0 then 0
 else if edgeL b.Map i d ∈ b.Map.Roads then b.Rules.Road + weatherR w
 else costL b kind (nextL b.Map i d) + w + (if edgeL b.Map i d ∈ b.Map.Rivers then b.Rules.River else 0)
structure MoveG (b : DBoard) (kind w : Int) : Prop where
 g : BoardG b
 n : MapN b.Map
 k0 : 0 ≤ kind
 k1 : kind < b.Rules.Kinds.length
 w0 : 0 ≤ w
 w2 : w ≤ 2
theorem rest_b {b : DBoard} (g : BoardG b) : 0 ≤ b.Rules.River ∧ b.Rules.River ≤ 9 ∧ 1 ≤ b.Rules.Road ∧ b.Rules.Road ≤ 9 := by
 have h := g.ok
 unfold boardB rulesB restB at h
 simp only [Bool.and_eq_true, inB_iff] at h
 omega
theorem next_at {b : DBoard} (g : BoardG b) {i d : Int} (h : 0 ≤ nextL b.Map i d) : nextL b.Map i d < b.Map.Width * b.Map.Height := nextL_area g.w0 g.h0 i d
theorem step_b {b : DBoard} {kind w : Int} (g : MoveG b kind w) (i d : Int) : 0 ≤ stepC b kind w i d ∧ stepC b kind w i d ≤ 20 ∧ (stepC b kind w i d ≠ 0 → 0 ≤ nextL b.Map i d ∧ nextL b.Map i d < b.Map.Width * b.Map.Height) := by
 have hr := rest_b g.g
 have := g.w0
 have := g.w2
 unfold stepC weatherR
 by_cases h : nextL b.Map i d < 0 ∨ costL b kind (nextL b.Map i d) = 0
 ·rw [if_pos h]; exact ⟨by omega, by omega, fun h => absurd rfl h⟩
 ·rw [if_neg h]
  have h0 : 0 ≤ nextL b.Map i d := by omega
  have hn := next_at g.g h0
  obtain ⟨_, c0, c9⟩ := g.g.cost_ex g.k0 g.k1 h0 hn
  refine ⟨?_, ?_, fun _ => ⟨h0, hn⟩⟩
  ·split
   ·split <;> omega
   ·split <;> omega
  ·split
   ·split <;> omega
   ·split <;> omega
theorem step_pos {b : DBoard} {kind w : Int} (g : MoveG b kind w) {i d : Int} (h : stepC b kind w i d ≠ 0) : 1 ≤ stepC b kind w i d := by
 have := step_b g i d
 omega
theorem c_impl_weatherCost (w : Int) (road : Bool) (h0 : 0 ≤ w) (h2 : w ≤ 2) : A_impl_weatherCost w road = some (en_impl_weatherCost (if road then weatherR w else w)) := by
 apply e_impl_weatherCost
 unfold weatherR
 cases road with
 | false => rfl
 | true =>
  by_cases h : 0 < w
  ·rw [if_pos rfl, if_pos (by simpa using h), wrap_id (by omega) (by omega), if_pos rfl, if_pos h]; rfl
  ·rw [if_pos rfl, if_neg (by simpa using h), if_pos rfl, if_neg h]; rfl
theorem c_spec_csWeather (w : Int) (road : Bool) (h0 : 0 ≤ w) (h2 : w ≤ 2) : A_spec_csWeather w road = some (en_spec_csWeather (if road then weatherR w else w)) := by
 apply e_spec_csWeather
 unfold weatherR
 cases road with
 | false => rfl
 | true =>
  have hc : w = 0 ∨ w = 1 ∨ w = 2 := by omega
  rcases hc with h | h | h <;> subst h <;> rfl
theorem c_impl_stepCost (b : DBoard) (kind w i d : Int) (g : MoveG b kind w) (hi : sm i) (d0 : 0 ≤ d) (d6 : d < 6) : A_impl_stepCost b kind w i d = some (en_impl_stepCost (stepC b kind w i d)) := by
 apply e_impl_stepCost
 unfold stepC
 have hr := rest_b g.g
 have w0 := g.w0
 have w2 := g.w2
 have hrl := g.n.r
 have hdl := g.n.d
 rw [cast_of inj_impl_nextTo (c_impl_nextTo _ _ _ g.g.s.b hi d0 d6)]
 by_cases h0 : nextL b.Map i d < 0
 ·rw [if_pos (by simpa using h0), if_pos (.inl h0)]; rfl
 ·have hn := next_at g.g (by omega : 0 ≤ nextL b.Map i d)
  obtain ⟨hc, c0, c9⟩ := g.g.cost_ex g.k0 g.k1 (by omega : 0 ≤ nextL b.Map i d) hn
  rw [if_neg (by simpa using h0), cast_of inj_impl_enterCost (c_impl_enterCost _ _ _ hc)]
  by_cases hz : costL b kind (nextL b.Map i d) = 0
  ·rw [if_pos (by simpa using hz), if_pos (.inr hz)]; rfl
  ·rw [if_neg (by simpa using hz), if_neg (by rintro (h | h) <;> omega), cast_of inj_impl_edgeOf (c_impl_edgeOf _ _ _ g.g.s.b hi d0 d6), if_neg h0, cast_of inj_slices_Contains_int (c_slices_Contains_int _ _ (by omega))]
   by_cases hro : edgeL b.Map i d ∈ b.Map.Roads
   ·have hw : 0 ≤ weatherR w ∧ weatherR w ≤ 2 := by unfold weatherR; split <;> omega
    rw [if_pos (by simpa using hro), if_pos hro, cast_of inj_impl_weatherCost (c_impl_weatherCost w true w0 w2), if_pos rfl, wrap_id (by omega) (by omega)]
    rfl
   ·rw [if_neg (by simpa using hro), if_neg hro, cast_of inj_impl_enterCost (c_impl_enterCost _ _ _ hc), cast_of inj_impl_weatherCost (c_impl_weatherCost w false w0 w2), if_neg (by simp), wrap_id (n := costL b kind (nextL b.Map i d) + w) (by omega) (by omega), cast_of inj_slices_Contains_int (c_slices_Contains_int _ _ (by omega))]
    by_cases hri : edgeL b.Map i d ∈ b.Map.Rivers
    ·rw [if_pos (by simpa using hri), if_pos hri, wrap_id (by omega) (by omega)]; rfl
    ·rw [if_neg (by simpa using hri), if_neg hri, Int.add_zero]; rfl
theorem c_spec_cStep (b : DBoard) (kind w i d : Int) (g : MoveG b kind w) (hi : sm i) (d0 : 0 ≤ d) (d6 : d < 6) : A_spec_cStep b kind i d w = some (en_spec_cStep (stepC b kind w i d)) := by
 apply e_spec_cStep
 unfold stepC
 have hr := rest_b g.g
 have w0 := g.w0
 have w2 := g.w2
 rw [cast_of inj_spec_mNext (c_spec_mNext _ _ _ g.g.s.b hi d0 d6)]
 by_cases h0 : nextL b.Map i d < 0
 ·rw [if_pos (by simpa using h0), if_pos (.inl h0)]; rfl
 ·have hn := next_at g.g (by omega : 0 ≤ nextL b.Map i d)
  obtain ⟨hc, c0, c9⟩ := g.g.cost_ex g.k0 g.k1 (by omega : 0 ≤ nextL b.Map i d) hn
  rw [if_neg (by simpa using h0), cast_of inj_spec_bCost (c_spec_bCost _ _ _ hc)]
  by_cases hz : costL b kind (nextL b.Map i d) = 0
  ·rw [if_pos (by simpa using hz), if_pos (.inr hz)]; rfl
  ·rw [if_neg (by simpa using hz), if_neg (by rintro (h | h) <;> omega), cast_of inj_spec_mRoad (c_spec_mRoad _ _ _ g.g.s.b g.n hi d0 d6)]
   by_cases hro : edgeL b.Map i d ∈ b.Map.Roads
   ·have hw : 0 ≤ weatherR w ∧ weatherR w ≤ 2 := by unfold weatherR; split <;> omega
    rw [if_pos (by simpa using hro), if_pos hro, cast_of inj_spec_csWeather (c_spec_csWeather w true w0 w2), if_pos rfl, wrap_id (by omega) (by omega)]
    rfl
   ·rw [if_neg (by simpa using hro), if_neg hro, cast_of inj_spec_bCost (c_spec_bCost _ _ _ hc), cast_of inj_spec_csWeather (c_spec_csWeather w false w0 w2), if_neg (by simp), wrap_id (n := costL b kind (nextL b.Map i d) + w) (by omega) (by omega), cast_of inj_spec_mRiver (c_spec_mRiver _ _ _ g.g.s.b g.n hi d0 d6)]
    by_cases hri : edgeL b.Map i d ∈ b.Map.Rivers
    ·rw [if_pos (by simpa using hri), if_pos hri, wrap_id (by omega) (by omega)]; rfl
    ·rw [if_neg (by simpa using hri), if_neg hri, Int.add_zero]; rfl
def edF (b : DBoard) (kind w : Int) : EdF := fun k d => if stepC b kind w (k : Int) (d : Int) = 0 then none else some ((nextL b.Map (k : Int) (d : Int)).toNat, stepC b kind w (k : Int) (d : Int))
theorem ed_ok {b : DBoard} {kind w : Int} (g : MoveG b kind w) : EdOk (edF b kind w) b.Map.Terrain.length 20 := by
 have ha := area_b g.g
 refine ⟨by omega, fun k d t c h => ?_⟩
 unfold edF at h
 by_cases hz : stepC b kind w (k : Int) (d : Int) = 0
 ·rw [if_pos hz] at h; cases h
 ·rw [if_neg hz] at h
  cases h
  have h1 := step_b g (k : Int) (d : Int)
  have h2 := h1.2.2 hz
  have h3 := step_pos g hz
  exact ⟨by omega, h3, h1.2.1⟩
theorem ed_some {b : DBoard} {kind w : Int} {k d : Nat} (hz : stepC b kind w (k : Int) (d : Int) ≠ 0) : edF b kind w k d = some ((nextL b.Map (k : Int) (d : Int)).toNat, stepC b kind w (k : Int) (d : Int)) := by unfold edF; rw [if_neg hz]
theorem ed_none {b : DBoard} {kind w : Int} {k d : Nat} (hz : stepC b kind w (k : Int) (d : Int) = 0) : edF b kind w k d = none := by unfold edF; rw [if_pos hz]
def wayC (b : DBoard) (kind w i : Int) : List Int := distF (edF b kind w) b.Map.Terrain.length i.toNat
theorem colN_count {α β : Type} (p : Nat → Bool) (g : Nat → α → β) : ∀ (l : List α) (n : Nat), (colN (fun i _ => p i) g n l).length = ((List.range' n l.length).filter p).length
 | [], _ => rfl
 | x :: r, n => by
  unfold colN
  rw [List.length_cons, List.range'_succ, List.filter_cons]
  split
  ·rw [List.length_cons, List.length_cons, colN_count p g r (n + 1)]
  ·exact colN_count p g r (n + 1)
theorem colI_count {α β : Type} (p : Nat → Bool) (g : Nat → α → β) (l : List α) : (colI (fun i _ => p i) g l).length = ((List.range l.length).filter p).length := by
 unfold colI
 rw [colN_count, List.range_eq_range']
def groundN (b : DBoard) (us : List DUnit) (side : Int) : Int := (((List.range b.Map.Terrain.length).filter fun (i : Nat) => holderL b us (i : Int) == side).length : Int)
theorem ground_b (b : DBoard) (us : List DUnit) (side : Int) : 0 ≤ groundN b us side ∧ groundN b us side ≤ b.Map.Terrain.length := by
 unfold groundN
 have := List.length_filter_le (fun (i : Nat) => holderL b us (i : Int) == side) (List.range b.Map.Terrain.length)
 rw [List.length_range] at this
 omega
theorem holder_ctrl {b : DBoard} {us : List DUnit} {i side : Int} (hs : side = 0 ∨ side = 1) : (holderL b us i == side) = (controlL b us i == side) := by
 unfold holderL
 split
 ·rfl
 ·rename_i h
  rw [Bool.eq_iff_iff, beq_iff_eq, beq_iff_eq]
  omega
theorem foldN_cnt {α : Type} (p : α → Bool) : ∀ (l : List α) (n : Nat) (b : Int), foldN (fun _ (m : Int) x => if p x then m + 1 else m) n b l = b + ((l.filter p).length : Int)
 | [], _, b => by simp [foldN]
 | x :: r, n, b => by
  unfold foldN
  rw [foldN_cnt p r, List.filter_cons]
  split
  ·rw [List.length_cons]; omega
  ·rfl
def valL (x : DSetup) (s : DState) (side : Int) : Int :=
 2 * (sideW x.Board s side (srcAt x side.toNat) - sideW x.Board s (1 - side) (srcAt x (1 - side).toNat)) + groundN x.Board s.Units side - groundN x.Board s.Units (1 - side)
theorem val_opp (x : DSetup) (s : DState) (side : Int) : valL x s (1 - side) = -valL x s side := by
 unfold valL
 rw [show 1 - (1 - side) = side by omega]
 omega
theorem side_top {b : DBoard} {s : DState} (src : List Int) (side : Int) (g : StateG b s) : sideW b s side src ≤ 12000 := by
 have h := (sum_b _ 1000 _ (unit_in (side := side) src g)).2
 have hl := g.len
 have hol := of_len s.Units side
 have : (1000 : Int) * ((ofL s.Units side).length : Int) ≤ 12000 := by omega
 exact Int.le_trans h this
theorem val_b {x : DSetup} {s : DState} (side : Int) (g : StateG x.Board s) : -100000 ≤ valL x s side ∧ valL x s side ≤ 100000 := by
 have ha := area_b g.bg
 have h1 := side_b (srcAt x side.toNat) side g
 have h2 := side_top (srcAt x side.toNat) side g
 have h3 := side_b (srcAt x (1 - side).toNat) (1 - side) g
 have h4 := side_top (srcAt x (1 - side).toNat) (1 - side) g
 have h5 := ground_b x.Board s.Units side
 have h6 := ground_b x.Board s.Units (1 - side)
 unfold valL
 omega
def valWL (x : DSetup) (s : DState) (side : Int) : Int × Bool := if gameX x s && inB 0 1 side then (valL x s side, true) else (0, false)
def sgnL (a b : Int) : Int := if b < a then 1 else if a < b then -1 else 0
theorem sgn_opp (a b : Int) : sgnL b a = -sgnL a b := by
 unfold sgnL
 split <;> split <;> omega
def cmpWL (x : DSetup) (s t : DState) (side : Int) : Int × Bool := if (gameX x s && stateB x.Board t) && inB 0 1 side then (sgnL (valL x s side) (valL x t side), true) else (0, false)
def frontP (b : DBoard) (us : List DUnit) (side k : Int) : Bool := (nbL b.Map ((getI us k).getD zU).At).any fun i => ownerL us i == 1 - side
def frontL (b : DBoard) (s : DState) (side : Int) : List Int × Bool := if gameB b s && inB 0 1 side then ((ofL s.Units side).filter (frontP b s.Units side), true) else ([], false)
def groundWL (b : DBoard) (s : DState) (side : Int) : Int × Bool := if gameB b s && inB 0 1 side then (groundN b s.Units side, true) else (0, false)
def reachN2 (l : List Int) (m : Int) : Int := ((l.filter fun v => inB 0 m v).length : Int)
def mobWL (b : DBoard) (s : DState) (k : Int) : Int × Bool :=
 if gameB b s && inB 0 ((s.Units.length : Int) - 1) k then (if ((getI s.Units k).getD zU).At < 0 then 0 else reachN2 (wayC b ((getI s.Units k).getD zU).Kind s.Weather ((getI s.Units k).getD zU).At) (kindO b ((getI s.Units k).getD zU).Kind).Moves - 1, true) else (0, false)
structure JR (b : DBoard) (kind w : Int) (N s : Nat) (l : List Int) : Prop where
 g : Good (edF b kind w) N s l
 b : Bd 20 l
theorem range_get {n j x : Nat} (h : (List.range n)[j]? = some x) : x = j ∧ j < n := by
 rw [List.getElem?_eq_some_iff] at h
 obtain ⟨h1, h2⟩ := h
 rw [List.getElem_range] at h2
 rw [List.length_range] at h1
 exact ⟨h2.symm, h1⟩
theorem JR.val {b : DBoard} {kind w : Int} {N s : Nat} {l : List Int} (h : JR b kind w N s l) (hN : N ≤ 100) (k : Nat) : -1 ≤ vv l k ∧ vv l k ≤ 2000 := by
 refine ⟨h.g.neg k, ?_⟩
 by_cases hk : k < l.length
 ·have := h.b.top (by omega) (mem_of_get (vv_get hk))
  have := h.g.len
  omega
 ·rw [vv_out (by omega)]; omega
theorem JR.relU {b : DBoard} {kind w : Int} (g : MoveG b kind w) {s : Nat} {st : StR} (h : JR b kind w b.Map.Terrain.length s st.1) {k d : Nat} (hd : d < 6) : JR b kind w b.Map.Terrain.length s (relU (edF b kind w) st k d).1 := by
 unfold Go.Ev.relU
 cases he : edF b kind w k d with
 | none => exact h
 | some p =>
  obtain ⟨t, c⟩ := p
  dsimp only
  split
  ·rename_i hu
   exact ⟨h.g.upd (ed_ok g) hd he hu.1 hu.2, h.b.upd (ed_ok g) h.g he hu.1 hu.2⟩
  ·exact h
theorem l_impl_relaxed_L15 {b : DBoard} {kind w : Int} (g : MoveG b kind w) {N s : Nat} (hN : N = b.Map.Terrain.length) (k : Nat) (hk : k < N) (st : StR) (h : JR b kind w N s st.1) :
  OLe (L_impl_relaxed_L12 (relK (edF b kind w) st k).1 b kind w false [] 0 N N (relK (edF b kind w) st k).2 N ((k : Int) + 1)) (L_impl_relaxed_L15 st.1 b kind w false [] 0 N N st.2 k N k 0) := by
 have ha := (area_b g.g).2
 have hsm : sm (k : Int) := by unfold sm; omega
 unfold relK
 rw [← foldN_const _ (List.range 6) 0]
 refine fold_loop (fun j (v : StR) => L_impl_relaxed_L15 v.1 b kind w false [] 0 N N v.2 k N k j) (List.range 6) (fun _ v d => relU (edF b kind w) v k d) (fun _ v => JR b kind w N s v.1) (fun v => L_impl_relaxed_L12 v.1 b kind w false [] 0 N N v.2 N ((k : Int) + 1)) ?_ ?_ st h
 ·intro v hv r hr
  apply e_impl_relaxed_L15
  rw [if_neg (by simp), wrap_id (n := (k : Int) + 1) (by omega) (by omega)]
  exact hr
 ·intro j d v hd hj hv
  obtain ⟨rfl, h6⟩ := range_get hd
  refine ⟨by subst hN; exact hv.relU g h6, ?_⟩
  intro r hr
  have hl : v.1.length = N := hv.g.len
  apply e_impl_relaxed_L15
  rw [if_pos (by simp; omega), cast_of inj_impl_stepCost (c_impl_stepCost _ _ _ _ _ g hsm (by omega) (by omega)), wrap_id (n := (d : Int) + 1) (by omega) (by omega)]
  unfold Go.Ev.relU at hr
  by_cases hz : stepC b kind w k d = 0
  ·rw [ed_none hz] at hr
   rw [if_pos (by simpa using hz)]
   exact hr
  ·have hs := step_b g (k : Int) (d : Int)
   obtain ⟨t, ht⟩ := Int.eq_ofNat_of_zero_le (hs.2.2 hz).1
   have htN : t < N := by have := (area_b g.g).1; omega
   rw [ed_some hz, ht, Int.toNat_natCast] at hr
   dsimp only at hr
   have hkx := vv_get (l := v.1) (k := k) (by omega)
   have htx := vv_get (l := v.1) (k := t) (by omega)
   have bk := hv.val (by omega) k
   have bt := hv.val (by omega) t
   rw [if_neg (by simpa using hz), cast_of inj_impl_nextTo (c_impl_nextTo _ _ _ g.g.s.b hsm (by omega) (by omega)), cast_of inj_slices_Contains_int (c_slices_Contains_int _ _ (by simp)), if_neg (by simp), if_neg (by simp), ht, oxA_at rt_cI rfl (by omega)]
   refine (ld_at (E := tI) rfl rfl ok_cI (fun _ => rfl) (l := v.1) rfl rfl hkx _).trans ?_
   by_cases h0 : 0 ≤ vv v.1 k
   ·rw [if_pos (by simpa using h0), oxA_at rt_cI rfl (by omega)]
    refine (ld_at (E := tI) rfl rfl ok_cI (fun _ => rfl) (l := v.1) rfl rfl htx _).trans ?_
    by_cases h1 : vv v.1 t < 0
    ·rw [if_pos ⟨h0, .inl h1⟩] at hr
     rw [if_pos (by simpa using h1), oxA_at rt_cI rfl (by omega)]
     refine (ld_at (E := tI) rfl rfl ok_cI (fun _ => rfl) (l := v.1) rfl rfl hkx _).trans ?_
     rw [oxA_at rt_cI rfl (by omega), wrap_id (n := vv v.1 k + stepC b kind w k d) (by omega) (by omega), stF (f := 0) (off := t * 1) ok_cI rfl rfl htx rfl (by omega) rfl (y' := vv v.1 k + stepC b kind w k d) rfl]
     exact hr
    ·rw [if_neg (by simpa using h1), oxA_at rt_cI rfl (by omega)]
     refine (ld_at (E := tI) rfl rfl ok_cI (fun _ => rfl) (l := v.1) rfl rfl hkx _).trans ?_
     rw [oxA_at rt_cI rfl (by omega), wrap_id (n := vv v.1 k + stepC b kind w k d) (by omega) (by omega)]
     refine (ld_at (E := tI) rfl rfl ok_cI (fun _ => rfl) (l := v.1) rfl rfl htx _).trans ?_
     by_cases h2 : vv v.1 k + stepC b kind w k d < vv v.1 t
     ·rw [if_pos ⟨h0, .inr h2⟩] at hr
      rw [if_pos (by simpa using h2), oxA_at rt_cI rfl (by omega)]
      refine (ld_at (E := tI) rfl rfl ok_cI (fun _ => rfl) (l := v.1) rfl rfl hkx _).trans ?_
      rw [oxA_at rt_cI rfl (by omega), wrap_id (n := vv v.1 k + stepC b kind w k d) (by omega) (by omega), stF (f := 0) (off := t * 1) ok_cI rfl rfl htx rfl (by omega) rfl (y' := vv v.1 k + stepC b kind w k d) rfl]
      exact hr
     ·rw [if_neg (by omega)] at hr
      rw [if_neg (by simpa using h2)]
      exact hr
   ·rw [if_neg (by omega)] at hr
    rw [if_neg (by simpa using h0)]
    exact hr
theorem JR.relK {b : DBoard} {kind w : Int} (g : MoveG b kind w) {s : Nat} {st : StR} (h : JR b kind w b.Map.Terrain.length s st.1) (k : Nat) : JR b kind w b.Map.Terrain.length s (relK (edF b kind w) st k).1 := by
 unfold Go.Ev.relK
 have := fold_inv (fun st d => Go.Ev.relU (edF b kind w) st k d) (fun pre st => (∀ d ∈ pre, d < 6) → JR b kind w b.Map.Terrain.length s st.1) (fun pre x st ih hp => (ih fun d hd => hp d (List.mem_append_left _ hd)).relU g (hp x (by simp))) (List.range 6) [] st (fun _ => h)
 rw [List.nil_append] at this
 exact this fun d hd => List.mem_range.1 hd
theorem l_impl_relaxed_L9 {b : DBoard} {kind w : Int} (g : MoveG b kind w) {N s : Nat} (hN : N = b.Map.Terrain.length) : ∀ (f : Nat) (l : List Int), JR b kind w N s l → mu (20 * N + 1) l < f →
  L_impl_relaxed_L9 l b kind w false [] 0 N N true = some (en_impl_relaxed (runR (edF b kind w) f l)) := by
 intro f
 induction f with
 | zero =>
  intro l h hm
  have := mu_nonneg (M := 20 * N + 1) (by omega) l
  omega
 | succ f ih =>
  intro l h hm
  have hl : l.length = N := h.g.len
  have ha := (area_b g.g).2
  apply e_impl_relaxed_L9
  rw [if_pos rfl]
  have hp := PI.pass (ed_ok g) (by subst hN; exact h.g) h.b
  have hb : JR b kind w N s (relA (edF b kind w) l).1 := by subst hN; exact ⟨hp.g, hp.b⟩
  have nx : L_impl_relaxed_L9 (relA (edF b kind w) l).1 b kind w false [] 0 N N (relA (edF b kind w) l).2 = some (en_impl_relaxed (runR (edF b kind w) (f + 1) l)) := by
   unfold runR
   cases hc : (relA (edF b kind w) l).2 with
   | true =>
    rw [if_pos rfl]
    refine ih _ hb ?_
    have := hp.yes hc
    rw [← hN] at this
    omega
   | false =>
    rw [if_neg (by simp)]
    apply e_impl_relaxed_L9
    have hl2 := hb.g.len
    rw [if_neg (by simp), ← hl2, give_at ok_cI rfl]
    rfl
  have e : relA (edF b kind w) l = foldN (fun _ => relK (edF b kind w)) 0 (l, false) (List.range N) := by unfold relA; rw [foldN_const, hl]
  rw [e] at nx
  have := fold_loop (fun j (v : StR) => L_impl_relaxed_L12 v.1 b kind w false [] 0 N N v.2 N j) (List.range N) (fun _ => relK (edF b kind w)) (fun _ v => JR b kind w N s v.1) (fun v => L_impl_relaxed_L9 v.1 b kind w false [] 0 N N v.2) (fun v hv r hr => by
    apply e_impl_relaxed_L12
    rw [if_neg (by simp)]
    exact hr) (fun j k v hk hj hv => by
    obtain ⟨rfl, hkN⟩ := range_get hk
    refine ⟨by subst hN; exact hv.relK g k, ?_⟩
    intro r hr
    apply e_impl_relaxed_L12
    rw [if_pos (by simp; omega)]
    exact l_impl_relaxed_L15 g hN k hkN v hv r hr) (l, false) h
  exact this _ nx
theorem l_impl_relaxed_L3 {b : DBoard} {kind w : Int} (g : MoveG b kind w) {N s : Nat} (hN : N = b.Map.Terrain.length) (hs : s < N) : ∀ (k i : Nat), i + k = N → L_impl_relaxed_L3 (List.replicate i (-1) ++ List.replicate k 0) b kind w s false [] 0 N N N i = some (en_impl_relaxed (wayC b kind w s)) := by
 have ha := (area_b g.g).2
 intro k
 induction k with
 | zero =>
  intro i hi
  apply e_impl_relaxed_L3
  have hg : (List.replicate N (-1 : Int))[s]? = some (-1) := by rw [List.getElem?_replicate, if_pos hs]
  rw [if_neg (by simp; omega), List.replicate_zero, List.append_nil, show i = N by omega, oxA_at rt_cI rfl hs, stF (f := 0) (off := s * 1) ok_cI rfl rfl hg rfl (by omega) rfl (y' := 0) rfl]
  have e : wayC b kind w s = runR (edF b kind w) ((mu (20 * N + 1) ((List.replicate N (-1)).set s 0)).toNat + 1) ((List.replicate N (-1)).set s 0) := by
   unfold wayC
   rw [Int.toNat_natCast, ← hN]
   exact (run_dist (by rw [hN]; exact ed_ok g) hs (by omega)).symm
  rw [e]
  refine l_impl_relaxed_L9 g hN _ _ ⟨good_init _ hs, Bd.init (by omega) hs⟩ (by omega)
 | succ k ih =>
  intro i hi
  apply e_impl_relaxed_L3
  rw [if_pos (by simp; omega), oxA_at rt_cI rfl (by omega), stF (f := 0) (off := i * 1) ok_cI rfl rfl (fill_get (-1) 0 i k) rfl (by omega) rfl (y' := -1) rfl, fill_set, wrap_id (n := (i : Int) + 1) (by omega) (by omega)]
  exact ih (i + 1) (by omega)
theorem c_impl_relaxed (b : DBoard) (kind w : Int) (s : Nat) (g : MoveG b kind w) (hs : s < b.Map.Terrain.length) : A_impl_relaxed b kind w s false [] = some (en_impl_relaxed (wayC b kind w s)) := by
 apply e_impl_relaxed
 have ha := (area_b g.g).2
 rw [cast_of inj_impl_sizeOf (c_impl_sizeOf _), mkA_z rt_cI (z := 0) (by kernel_rfl) rfl (by omega) (by omega) (by omega)]
 have := l_impl_relaxed_L3 g rfl hs b.Map.Terrain.length 0 (by omega)
 simpa using this
theorem JR.relD {b : DBoard} {kind w : Int} (g : MoveG b kind w) {s : Nat} {l : List Int} (h : JR b kind w b.Map.Terrain.length s l) {a d : Nat} (h0 : 0 ≤ vv l a) (hd : d < 6) : JR b kind w b.Map.Terrain.length s (relD (edF b kind w) a l d) ∧ 0 ≤ vv (relD (edF b kind w) a l d) a := by
 unfold Go.Ev.relD
 cases he : edF b kind w a d with
 | none => exact ⟨h, h0⟩
 | some p =>
  obtain ⟨t, c⟩ := p
  dsimp only
  split
  ·rename_i hu
   have hg : JR b kind w b.Map.Terrain.length s (l.set t (vv l a + c)) := ⟨h.g.upd (ed_ok g) hd he h0 hu, h.b.upd (ed_ok g) h.g he h0 hu⟩
   refine ⟨hg, ?_⟩
   have := (ed_ok g).e _ _ _ _ he
   rw [vv_set (by rw [h.g.len]; exact this.1)]
   split
   ·omega
   ·exact h0
  ·exact ⟨h, h0⟩
theorem l_spec_pFrom_L20 {b : DBoard} {kind w : Int} (g : MoveG b kind w) {N s : Nat} (hN : N = b.Map.Terrain.length) (a : Nat) (hk : a < N) (l : List Int) (done : List Bool) (h : JR b kind w N s l) (h0 : 0 ≤ vv l a) :
  OLe (L_spec_pFrom_L9 (relB (edF b kind w) l a) done b kind w [] 0 N N 0 N N) (L_spec_pFrom_L20 l done b kind w [] 0 N N 0 N N a 0) := by
 have ha := (area_b g.g).2
 have hsm : sm (a : Int) := by unfold sm; omega
 unfold relB
 rw [← foldN_const _ (List.range 6) 0]
 refine fold_loop (fun j (v : List Int) => L_spec_pFrom_L20 v done b kind w [] 0 N N 0 N N a j) (List.range 6) (fun _ v d => relD (edF b kind w) a v d) (fun _ v => JR b kind w N s v ∧ 0 ≤ vv v a) (fun v => L_spec_pFrom_L9 v done b kind w [] 0 N N 0 N N) ?_ ?_ l ⟨h, h0⟩
 ·intro v hv r hr
  apply e_spec_pFrom_L20
  rw [if_neg (by simp)]
  exact hr
 ·intro j d v hd hj hv
  obtain ⟨rfl, h6⟩ := range_get hd
  refine ⟨by subst hN; exact hv.1.relD g hv.2 h6, ?_⟩
  obtain ⟨hv, h0⟩ := hv
  intro r hr
  have hl : v.length = N := hv.g.len
  apply e_spec_pFrom_L20
  rw [if_pos (by simp; omega), cast_of inj_spec_cStep (c_spec_cStep _ _ _ _ _ g hsm (by omega) (by omega)), wrap_id (n := (d : Int) + 1) (by omega) (by omega)]
  unfold Go.Ev.relD at hr
  by_cases hz : stepC b kind w a d = 0
  ·rw [ed_none hz] at hr
   rw [if_pos (by simpa using hz)]
   exact hr
  ·have hs := step_b g (a : Int) (d : Int)
   obtain ⟨t, ht⟩ := Int.eq_ofNat_of_zero_le (hs.2.2 hz).1
   have htN : t < N := by have := (area_b g.g).1; omega
   rw [ed_some hz, ht, Int.toNat_natCast] at hr
   dsimp only at hr
   have hkx := vv_get (l := v) (k := a) (by omega)
   have htx := vv_get (l := v) (k := t) (by omega)
   have bk := hv.val (by omega) a
   have bt := hv.val (by omega) t
   rw [if_neg (by simpa using hz), cast_of inj_spec_mNext (c_spec_mNext _ _ _ g.g.s.b hsm (by omega) (by omega)), ht, oxA_at rt_cI rfl (by omega)]
   refine (ld_at (E := tI) rfl rfl ok_cI (fun _ => rfl) (l := v) rfl rfl hkx _).trans ?_
   rw [cast_of inj_spec_l1Has (c_spec_l1Has _ _ (by simp)), if_pos (by simp), oxA_at rt_cI rfl (by omega)]
   refine (ld_at (E := tI) rfl rfl ok_cI (fun _ => rfl) (l := v) rfl rfl htx _).trans ?_
   rw [wrap_id (n := vv v a + stepC b kind w a d) (by omega) (by omega)]
   by_cases h1 : vv v t < 0
   ·rw [if_pos (.inl h1)] at hr
    rw [if_pos (by simpa using h1), oxA_at rt_cI rfl (by omega), stF (f := 0) (off := t * 1) ok_cI rfl rfl htx rfl (by omega) rfl (y' := vv v a + stepC b kind w a d) rfl]
    exact hr
   ·rw [if_neg (by simpa using h1), oxA_at rt_cI rfl (by omega)]
    refine (ld_at (E := tI) rfl rfl ok_cI (fun _ => rfl) (l := v) rfl rfl htx _).trans ?_
    by_cases h2 : vv v a + stepC b kind w a d < vv v t
    ·rw [if_pos (.inr h2)] at hr
     rw [if_pos (by simpa using h2), oxA_at rt_cI rfl (by omega), stF (f := 0) (off := t * 1) ok_cI rfl rfl htx rfl (by omega) rfl (y' := vv v a + stepC b kind w a d) rfl]
     exact hr
    ·rw [if_neg (by omega)] at hr
     rw [if_neg (by simpa using h2)]
     exact hr
theorem l_spec_pFrom_L11 {b : DBoard} {kind w : Int} (g : MoveG b kind w) {N s : Nat} (hN : N = b.Map.Terrain.length) (l : List Int) (done : List Bool) (h : JR b kind w N s l) (hd : done.length = N) :
  OLe (if bestD l done < 0 then some (en_spec_pFrom l) else L_spec_pFrom_L20 l (done.set (bestD l done).toNat true) b kind w [] 0 N N 0 N N (bestD l done) 0) (L_spec_pFrom_L11 l done b kind w [] 0 N N 0 N N (-1) 0 N N N 0) := by
 have ha := (area_b g.g).2
 have hl : l.length = N := h.g.len
 have e : bestD l done = foldN (fun _ => bestF l done) 0 (-1) (List.range N) := by unfold bestD; rw [foldN_const, hl]
 rw [e]
 refine fold_loop (fun j (v : Int) => L_spec_pFrom_L11 l done b kind w [] 0 N N 0 N N v 0 N N N j) (List.range N) (fun _ => bestF l done) (fun _ v => -1 ≤ v ∧ v < N) (fun v => if v < 0 then some (en_spec_pFrom l) else L_spec_pFrom_L20 l (done.set v.toNat true) b kind w [] 0 N N 0 N N v 0) ?_ ?_ (-1) ⟨by omega, by omega⟩
 ·intro v hv r hr
  apply e_spec_pFrom_L11
  rw [if_neg (by simp)]
  by_cases h0 : v < 0
  ·rw [if_pos h0] at hr
   rw [if_pos (by simpa using h0), ← hl, give_at ok_cI rfl]
   exact hr
  ·obtain ⟨t, rfl⟩ := Int.eq_ofNat_of_zero_le (by omega : 0 ≤ v)
   rw [if_neg h0, Int.toNat_natCast] at hr
   rw [if_neg (by simpa using h0), oxA_at rt_cB rfl (by omega), stF (f := 0) (off := t * 1) ok_cB rfl rfl (List.getElem?_eq_getElem (by omega)) rfl (by omega) rfl (y' := true) rfl]
   exact hr
 ·intro j k v hk hj hv
  obtain ⟨rfl, hkN⟩ := range_get hk
  have hb : bestF l done v k = v ∨ bestF l done v k = k := by unfold bestF; split <;> simp
  refine ⟨by rcases hb with e | e <;> rw [e] <;> omega, ?_⟩
  intro r hr
  apply e_spec_pFrom_L11
  unfold bestF at hr
  have hkx := vv_get (l := l) (k := k) (by omega)
  rw [if_pos (by simp; omega), oxA_at rt_cI rfl (by omega), wrap_id (n := (k : Int) + 1) (by omega) (by omega)]
  refine (ld_at (E := tI) rfl rfl ok_cI (fun _ => rfl) (l := l) rfl rfl hkx _).trans ?_
  by_cases h0 : 0 ≤ vv l k
  ·have hdx : done[k]? = some (dn done k) := by unfold dn; rw [List.getD_eq_getElem?_getD, List.getElem?_eq_getElem (by omega)]; rfl
   rw [if_pos (by simpa using h0), oxA_at rt_cB rfl (by omega)]
   refine (ld_at (E := tB) rfl rfl ok_cB (fun _ => rfl) (l := done) rfl rfl hdx _).trans ?_
   cases hdn : dn done k with
   | true =>
    rw [hdn, if_neg (by simp)] at hr
    rw [if_neg (by simp)]
    exact hr
   | false =>
    rw [hdn] at hr
    rw [if_pos (by simp)]
    by_cases h1 : v < 0
    ·rw [if_pos (by simp [h0, h1])] at hr
     rw [if_pos (by simpa using h1)]
     exact hr
    ·obtain ⟨t, rfl⟩ := Int.eq_ofNat_of_zero_le (by omega : 0 ≤ v)
     rw [Int.toNat_natCast] at hr
     rw [if_neg (by simpa using h1), oxA_at rt_cI rfl (by omega)]
     refine (ld_at (E := tI) rfl rfl ok_cI (fun _ => rfl) (l := l) rfl rfl (vv_get (by omega)) _).trans ?_
     by_cases h2 : vv l k < vv l t
     ·rw [if_pos (by simp [h0, h2])] at hr
      rw [if_pos (by simpa using h2)]
      exact hr
     ·rw [if_neg (by simp [h2])] at hr
      rw [if_neg (by simpa using h2)]
      exact hr
  ·rw [if_neg (by simp [h0])] at hr
   rw [if_neg (by simpa using h0)]
   exact hr
theorem JR.relB {b : DBoard} {kind w : Int} (g : MoveG b kind w) {s : Nat} {l : List Int} (h : JR b kind w b.Map.Terrain.length s l) {a : Nat} (h0 : 0 ≤ vv l a) : JR b kind w b.Map.Terrain.length s (relB (edF b kind w) l a) := by
 unfold Go.Ev.relB
 have := fold_inv (Go.Ev.relD (edF b kind w) a) (fun pre l => (∀ d ∈ pre, d < 6) → JR b kind w b.Map.Terrain.length s l ∧ 0 ≤ vv l a) (fun pre x st ih hp => by
  have h := ih fun d hd => hp d (List.mem_append_left _ hd)
  exact h.1.relD g h.2 (hp x (by simp))) (List.range 6) [] l (fun _ => ⟨h, h0⟩)
 rw [List.nil_append] at this
 exact (this fun d hd => List.mem_range.1 hd).1
theorem l_spec_pFrom_L9 {b : DBoard} {kind w : Int} (g : MoveG b kind w) {N s : Nat} (hN : N = b.Map.Terrain.length) : ∀ (f : Nat) (l : List Int) (done : List Bool), JR b kind w N s l → done.length = N → leftD done < f →
  L_spec_pFrom_L9 l done b kind w [] 0 N N 0 N N = some (en_spec_pFrom (runD (edF b kind w) f l done)) := by
 intro f
 induction f with
 | zero => intro l done h hd hm; omega
 | succ f ih =>
  intro l done h hd hm
  apply e_spec_pFrom_L9
  refine l_spec_pFrom_L11 g hN l done h hd _ ?_
  unfold runD
  rcases best_ok l done with ⟨h1, h2⟩ | ⟨a, h1, h2, h3, h4, h5⟩
  ·rw [h1, if_pos (by decide), if_pos (by decide)]
  ·rw [h1, if_neg (by omega), if_neg (by omega), Int.toNat_natCast]
   have hl := h.g.len
   have hs := left_set (done := done) (b := a) (by omega) h4
   refine l_spec_pFrom_L20 g hN a (by omega) l _ h h3 _ (ih _ _ (by subst hN; exact h.relB g h3) (by rw [List.length_set]; exact hd) (by omega))
theorem l_spec_pFrom_L4 {b : DBoard} {kind w : Int} (g : MoveG b kind w) {N s : Nat} (hN : N = b.Map.Terrain.length) (hs : s < N) : ∀ (k i : Nat), i + k = N → L_spec_pFrom_L4 (List.replicate i (-1) ++ List.replicate k 0) (List.replicate N false) b kind w s [] 0 N N N i = some (en_spec_pFrom (wayC b kind w s)) := by
 have ha := (area_b g.g).2
 intro k
 induction k with
 | zero =>
  intro i hi
  apply e_spec_pFrom_L4
  have hg : (List.replicate N (-1 : Int))[s]? = some (-1) := by rw [List.getElem?_replicate, if_pos hs]
  rw [if_neg (by simp; omega), List.replicate_zero, List.append_nil, show i = N by omega, oxA_at rt_cI rfl hs, stF (f := 0) (off := s * 1) ok_cI rfl rfl hg rfl (by omega) rfl (y' := 0) rfl, List.length_replicate]
  unfold wayC distF
  rw [Int.toNat_natCast, ← hN]
  refine l_spec_pFrom_L9 g hN _ _ _ ⟨good_init _ hs, Bd.init (by omega) hs⟩ (by simp) ?_
  have : leftD (List.replicate N false) ≤ N := by
   unfold leftD
   have := List.length_filter_le (fun x => !x) (List.replicate N false)
   simp at this ⊢
  omega
 | succ k ih =>
  intro i hi
  apply e_spec_pFrom_L4
  rw [if_pos (by simp; omega), oxA_at rt_cI rfl (by omega), stF (f := 0) (off := i * 1) ok_cI rfl rfl (fill_get (-1) 0 i k) rfl (by omega) rfl (y' := -1) rfl, fill_set, wrap_id (n := (i : Int) + 1) (by omega) (by omega)]
  exact ih (i + 1) (by omega)
theorem c_spec_pFrom (b : DBoard) (kind w : Int) (s : Nat) (g : MoveG b kind w) (hs : s < b.Map.Terrain.length) : A_spec_pFrom b kind w s [] = some (en_spec_pFrom (wayC b kind w s)) := by
 apply e_spec_pFrom
 have ha := area_b g.g
 rw [cast_of inj_spec_mSize (c_spec_mSize _), ← ha.1, wrap_id (by omega) (by omega), mkA_z rt_cI (z := 0) (by kernel_rfl) rfl (by omega) (by omega) (by omega), mkA_z rt_cB (z := false) (by kernel_rfl) rfl (by omega) (by simp; omega) (by simp; omega)]
 have := l_spec_pFrom_L4 g rfl hs b.Map.Terrain.length 0 (by omega)
 simpa using this
theorem c_impl_groundOf_1 (b : DBoard) (s : DState) (side : Int) (i : Int) (g : StateG b s) (h0 : 0 ≤ i) (h1 : i < b.Map.Width * b.Map.Height) : A_impl_groundOf_1 b s side i = some (en_impl_groundOf_1 (holderL b s.Units i == side, b, s, side)) := by
 apply e_impl_groundOf_1
 rw [cast_of inj_impl_holderOf (c_impl_holderOf _ _ _ g h0 h1)]
 rfl
theorem c_impl_groundOf (b : DBoard) (s : DState) (side : Int) (g : StateG b s) : A_impl_groundOf b s side = some (en_impl_groundOf (groundN b s.Units side)) := by
 have ha := area_b g.bg
 have hc : A_hT_impl_groundOf_1 b s side b = some (en_hT_impl_groundOf_1 (colI (fun i _ => holderL b s.Units (i : Int) == side) (fun i _ => (i : Int)) b.Map.Terrain, b, s, side)) := by
  apply e_hT_impl_groundOf_1
  refine col_loop (fun k acc => L_hT_impl_groundOf_1_L3 acc b s side b.Map.Terrain.length k) b.Map.Terrain (fun i _ => holderL b s.Units (i : Int) == side) (fun i _ => (i : Int)) (fun acc => some (en_hT_impl_groundOf_1 (acc, b, s, side))) ?_ (fun i x acc hx hi hacc => ?_) _ rfl
  ·intro acc _ r hr
   apply e_hT_impl_groundOf_1_L3
   rw [if_neg (by simp), give_at ok_cI rfl, ← hr]
   rfl
  ·intro r hr
   apply e_hT_impl_groundOf_1_L3
   rw [if_pos (by simpa using hi), cast_of inj_impl_groundOf_1 (c_impl_groundOf_1 b s side i g (by omega) (by omega)), wrap_id (n := (i : Int) + 1) (by omega) (by omega)]
   cases hc : holderL b s.Units (i : Int) == side with
   | true =>
    rw [hc, if_pos rfl] at hr
    rw [if_pos rfl, apR_eq rt_cI rfl (xs := [(i : Int)]) (Src.row (n := 1) ok_cI rfl rfl) rfl rfl (by simp; omega) (by simp; omega) rfl]
    exact hr
   | false =>
    rw [hc, if_neg (by simp)] at hr
    rw [if_neg (by simp)]
    exact hr
 apply e_impl_groundOf
 rw [cast_of inj_hT_impl_groundOf_1 hc]
 unfold groundN
 rw [colI_count (fun (i : Nat) => holderL b s.Units (i : Int) == side)]
 rfl
theorem l_spec_zMap_L3 {b : DBoard} {s : DState} (g : StateG b s) : ∀ (k i : Nat), i + k = b.Map.Terrain.length → L_spec_zMap_L3 ((List.range i).map fun (j : Nat) => controlL b s.Units (j : Int)) b s i = some (en_spec_zMap ((List.range b.Map.Terrain.length).map fun (j : Nat) => controlL b s.Units (j : Int))) := by
 have ha := area_b g.bg
 intro k
 induction k with
 | zero =>
  intro i hi
  apply e_spec_zMap_L3
  rw [cast_of inj_spec_mSize (c_spec_mSize _), ← ha.1, wrap_id (by omega) (by omega), if_neg (by simp; omega), give_at ok_cI rfl, show i = b.Map.Terrain.length by omega]
  rfl
 | succ k ih =>
  intro i hi
  apply e_spec_zMap_L3
  rw [cast_of inj_spec_mSize (c_spec_mSize _), ← ha.1, wrap_id (n := (b.Map.Terrain.length : Int)) (by omega) (by omega), if_pos (by simp; omega), cast_of inj_spec_zControl (c_spec_zControl _ _ _ g (by omega) (by omega)), wrap_id (n := (i : Int) + 1) (by omega) (by omega),
   apR_eq rt_cI rfl (xs := [controlL b s.Units (i : Int)]) (Src.row (n := 1) ok_cI rfl rfl) rfl rfl (by simp; omega) (by simp; omega) rfl]
  have := ih (i + 1) (by omega)
  rw [List.range_succ, List.map_append] at this
  exact this
theorem c_spec_zMap (b : DBoard) (s : DState) (g : StateG b s) : A_spec_zMap b s = some (en_spec_zMap ((List.range b.Map.Terrain.length).map fun (j : Nat) => controlL b s.Units (j : Int))) := by
 apply e_spec_zMap
 exact l_spec_zMap_L3 g b.Map.Terrain.length 0 (by omega)
theorem c_spec_uGround (b : DBoard) (s : DState) (side : Int) (g : StateG b s) (hs : side = 0 ∨ side = 1) : A_spec_uGround b s side = some (en_spec_uGround (groundN b s.Units side)) := by
 apply e_spec_uGround
 have ha := area_b g.bg
 rw [cast_of inj_spec_zMap (c_spec_zMap _ _ g)]
 generalize hL : ((List.range b.Map.Terrain.length).map fun (j : Nat) => controlL b s.Units (j : Int)) = l
 have hlen : l.length = b.Map.Terrain.length := by rw [← hL]; simp
 have hq : groundN b s.Units side = ((l.filter fun x => x == side).length : Int) := by
  unfold groundN
  rw [← hL, List.filter_map, List.length_map]
  congr 2
  refine List.filter_congr fun i _ => ?_
  exact holder_ctrl hs
 have e : groundN b s.Units side = foldN (fun _ (m : Int) x => if x == side then m + 1 else m) 0 0 l := by rw [foldN_cnt, hq, Int.zero_add]
 rw [e]
 refine fold_loop (fun j (m : Int) => L_spec_uGround_L3 side m l l.length j) l (fun _ (m : Int) x => if x == side then m + 1 else m) (fun j m => 0 ≤ m ∧ m ≤ j) (fun m => some (en_spec_uGround m)) ?_ ?_ 0 ⟨by omega, by omega⟩ _ rfl
 ·intro m hm r hr
  apply e_spec_uGround_L3
  rw [if_neg (by simp)]
  exact hr
 ·intro j x m hx hj hm
  refine ⟨by split <;> omega, ?_⟩
  intro r hr
  apply e_spec_uGround_L3
  rw [if_pos (by simpa using hj), ixA_at sl_cI rfl hx, wrap_id (n := m + 1) (by omega) (by omega), wrap_id (n := (j : Int) + 1) (by omega) (by omega)]
  by_cases h : (x == side) = true
  ·rw [if_pos h] at hr ⊢
   exact hr
  ·rw [if_neg h] at hr ⊢
   exact hr
theorem one_sub {side : Int} (h : inB 0 1 side = true) : IntKind.wrap .i64 (1 - side) = 1 - side := by
 rw [inB_iff] at h
 exact wrap_id (by omega) (by omega)
theorem side_cases {side : Int} (h : inB 0 1 side = true) : side = 0 ∨ side = 1 := by
 rw [inB_iff] at h
 omega
theorem side_other {side : Int} (h : inB 0 1 side = true) : inB 0 1 (1 - side) = true := by
 rw [inB_iff] at h ⊢
 omega
theorem val_parts {x : DSetup} {s : DState} (side : Int) (src : List Int) (g : StateG x.Board s) : (0 ≤ sideW x.Board s side src ∧ sideW x.Board s side src ≤ 12000) ∧ 0 ≤ groundN x.Board s.Units side ∧ groundN x.Board s.Units side ≤ 100 := by
 have ha := area_b g.bg
 have h1 := side_b src side g
 have h2 := side_top src side g
 have h5 := ground_b x.Board s.Units side
 omega
theorem c_impl_valueOf (x : DSetup) (s : DState) (side : Int) (hn : SetupN x) (hg : gameX x s = true) (hs : inB 0 1 side = true) : A_impl_valueOf x s side = some (en_impl_valueOf (valL x s side)) := by
 apply e_impl_valueOf
 unfold valL
 have h := GameG.of hn hg hs
 have h' := GameG.of hn hg (side_other hs)
 have p1 := val_parts side (srcAt x side.toNat) h.g
 have p2 := val_parts (1 - side) (srcAt x (1 - side).toNat) h.g
 rw [one_sub hs, ixA_get sl_cLI _ _ h.a, cast_of inj_impl_sideWorth (c_impl_sideWorth _ _ _ _ h.g h.q), ixA_get sl_cLI _ _ h'.a, cast_of inj_impl_sideWorth (c_impl_sideWorth _ _ _ _ h.g h'.q), cast_of inj_impl_groundOf (c_impl_groundOf _ _ _ h.g), cast_of inj_impl_groundOf (c_impl_groundOf _ _ _ h.g),
  wrap_id (n := sideW x.Board s side (srcAt x side.toNat) - sideW x.Board s (1 - side) (srcAt x (1 - side).toNat)) (by omega) (by omega), wrap_id (n := 2 * (sideW x.Board s side (srcAt x side.toNat) - sideW x.Board s (1 - side) (srcAt x (1 - side).toNat))) (by omega) (by omega), wrap_id (n := 2 * (sideW x.Board s side (srcAt x side.toNat) - sideW x.Board s (1 - side) (srcAt x (1 - side).toNat)) + groundN x.Board s.Units side) (by omega) (by omega), wrap_id (by omega) (by omega)]
 rfl
theorem c_spec_uValue (x : DSetup) (s : DState) (side : Int) (hn : SetupN x) (hg : gameX x s = true) (hs : inB 0 1 side = true) : A_spec_uValue x s side = some (en_spec_uValue (valL x s side)) := by
 apply e_spec_uValue
 unfold valL
 have h := GameG.of hn hg hs
 have h' := GameG.of hn hg (side_other hs)
 have p1 := val_parts side (srcAt x side.toNat) h.g
 have p2 := val_parts (1 - side) (srcAt x (1 - side).toNat) h.g
 rw [one_sub hs, ixA_get sl_cLI _ _ h.a, cast_of inj_spec_uSide (c_spec_uSide _ _ _ _ h.g h.q), ixA_get sl_cLI _ _ h'.a, cast_of inj_spec_uSide (c_spec_uSide _ _ _ _ h.g h'.q), cast_of inj_spec_uGround (c_spec_uGround _ _ _ h.g (side_cases hs)), cast_of inj_spec_uGround (c_spec_uGround _ _ _ h.g (side_cases (side_other hs))),
  wrap_id (n := sideW x.Board s side (srcAt x side.toNat) - sideW x.Board s (1 - side) (srcAt x (1 - side).toNat)) (by omega) (by omega), wrap_id (n := 2 * (sideW x.Board s side (srcAt x side.toNat) - sideW x.Board s (1 - side) (srcAt x (1 - side).toNat))) (by omega) (by omega), wrap_id (n := 2 * (sideW x.Board s side (srcAt x side.toNat) - sideW x.Board s (1 - side) (srcAt x (1 - side).toNat)) + groundN x.Board s.Units side) (by omega) (by omega), wrap_id (by omega) (by omega)]
 rfl
theorem c_impl_ValueOf (x : DSetup) (s : DState) (side : Int) (hn : SetupN x) (hs : s.Units.length < 1000000000000) : A_impl_ValueOf x s side = some (en_impl_ValueOf (valWL x s side)) := by
 apply e_impl_ValueOf
 unfold valWL
 rw [cast_of inj_impl_isGame (c_impl_isGame _ _ hn hs)]
 cases hg : gameX x s with
 | false => rfl
 | true =>
  rw [if_neg (by simp), cast_of inj_impl_isSide (c_impl_isSide _)]
  cases hi : inB 0 1 side with
  | false => rfl
  | true =>
   rw [if_neg (by simp), cast_of inj_impl_valueOf (c_impl_valueOf _ _ _ hn hg hi)]
   rfl
theorem c_spec_ValueOf (x : DSetup) (s : DState) (side : Int) (hn : SetupN x) (hs : s.Units.length < 1000000000000) : A_spec_ValueOf x s side = some (en_spec_ValueOf (valWL x s side)) := by
 apply e_spec_ValueOf
 unfold valWL
 rw [cast_of inj_spec_tAsked (c_spec_tAsked _ _ hn hs)]
 cases hg : gameX x s with
 | false => rfl
 | true =>
  rw [if_neg (by simp), kk_spec_l1In]
  cases hi : inB 0 1 side with
  | false => rfl
  | true =>
   rw [if_neg (by simp), cast_of inj_spec_uValue (c_spec_uValue _ _ _ hn hg hi)]
   rfl
theorem gameX_parts {x : DSetup} {s : DState} (h : gameX x s = true) : setupB x = true ∧ stateB x.Board s = true ∧ boardB x.Board = true := by
 unfold gameX at h
 rw [Bool.and_eq_true] at h
 have h1 := h.1
 unfold setupB at h1
 rw [Bool.and_eq_true] at h1
 exact ⟨h.1, h.2, h1.1⟩
theorem c_impl_CompareStates (x : DSetup) (s t : DState) (side : Int) (hn : SetupN x) (hs : s.Units.length < 1000000000000) (ht : t.Units.length < 1000000000000) : A_impl_CompareStates x s t side = some (en_impl_CompareStates (cmpWL x s t side)) := by
 apply e_impl_CompareStates
 unfold cmpWL
 rw [cast_of inj_impl_isGame (c_impl_isGame _ _ hn hs)]
 cases hg : gameX x s with
 | false => rfl
 | true =>
  obtain ⟨p1, p2, p3⟩ := gameX_parts hg
  rw [if_neg (by simp), cast_of inj_impl_goodState (c_impl_goodState _ _ (StateG.of p3 hn.b.m p2).bg ht)]
  cases hgt : stateB x.Board t with
  | false => rfl
  | true =>
   rw [if_neg (by simp), cast_of inj_impl_isSide (c_impl_isSide _)]
   cases hi : inB 0 1 side with
   | false => rfl
   | true =>
    have hg2 : gameX x t = true := by unfold gameX; rw [p1, hgt]; rfl
    rw [if_neg (by simp), cast_of inj_impl_valueOf (c_impl_valueOf _ _ _ hn hg hi), cast_of inj_impl_valueOf (c_impl_valueOf _ _ _ hn hg2 hi)]
    show _ = some (en_impl_CompareStates (sgnL (valL x s side) (valL x t side), true))
    unfold sgnL
    by_cases h1 : valL x t side < valL x s side
    ·rw [if_pos (by simpa using h1), if_pos h1]; rfl
    ·rw [if_neg (by simpa using h1), if_neg h1]
     by_cases h2 : valL x s side < valL x t side
     ·rw [if_pos (by simpa using h2), if_pos h2]; rfl
     ·rw [if_neg (by simpa using h2), if_neg h2]; rfl
theorem c_spec_l1Sign (n : Int) : A_spec_l1Sign n = some (en_spec_l1Sign (sgnL n 0)) := by
 apply e_spec_l1Sign
 unfold sgnL
 by_cases h1 : 0 < n
 ·rw [if_pos (by simpa using h1), if_pos h1]; rfl
 ·rw [if_neg (by simpa using h1), if_neg h1]
  by_cases h2 : n < 0
  ·rw [if_pos (by simpa using h2), if_pos h2]; rfl
  ·rw [if_neg (by simpa using h2), if_neg h2]; rfl
theorem sgn_sub (a b : Int) : sgnL (a - b) 0 = sgnL a b := by
 unfold sgnL
 by_cases h1 : b < a
 ·rw [if_pos h1, if_pos (by omega)]
 ·rw [if_neg h1, if_neg (by omega)]
  by_cases h2 : a < b
  ·rw [if_pos h2, if_pos (by omega)]
  ·rw [if_neg h2, if_neg (by omega)]
theorem c_spec_CompareStates (x : DSetup) (s t : DState) (side : Int) (hn : SetupN x) (hs : s.Units.length < 1000000000000) (ht : t.Units.length < 1000000000000) : A_spec_CompareStates x s t side = some (en_spec_CompareStates (cmpWL x s t side)) := by
 apply e_spec_CompareStates
 unfold cmpWL
 rw [cast_of inj_spec_tAsked (c_spec_tAsked _ _ hn hs)]
 cases hg : gameX x s with
 | false => rfl
 | true =>
  obtain ⟨p1, p2, p3⟩ := gameX_parts hg
  rw [if_neg (by simp), cast_of inj_spec_sGood (c_spec_sGood _ _ hn.b ht), p3]
  cases hgt : stateB x.Board t with
  | false => rfl
  | true =>
   rw [if_neg (by simp), kk_spec_l1In]
   cases hi : inB 0 1 side with
   | false => rfl
   | true =>
    have hg2 : gameX x t = true := by unfold gameX; rw [p1, hgt]; rfl
    have b1 := val_b side (StateG.of p3 hn.b.m p2)
    have b2 := val_b side (StateG.of p3 hn.b.m hgt)
    rw [if_neg (by simp), cast_of inj_spec_uValue (c_spec_uValue _ _ _ hn hg hi), cast_of inj_spec_uValue (c_spec_uValue _ _ _ hn hg2 hi), wrap_id (by omega) (by omega), cast_of inj_spec_l1Sign (c_spec_l1Sign _), sgn_sub]
    rfl
theorem c_impl_GroundOf (b : DBoard) (s : DState) (side : Int) (hn : BoardN b) (hs : s.Units.length < 1000000000000) : A_impl_GroundOf b s side = some (en_impl_GroundOf (groundWL b s side)) := by
 apply e_impl_GroundOf
 unfold groundWL
 rw [cast_of inj_impl_isLook (c_impl_isLook _ _ _ hn hs)]
 cases hg : gameB b s && inB 0 1 side with
 | false => rfl
 | true =>
  have hg2 := hg
  rw [Bool.and_eq_true] at hg2
  rw [if_neg (by simp), cast_of inj_impl_groundOf (c_impl_groundOf _ _ _ (StateG.ofB hg2.1 hn))]
  rfl
theorem c_spec_GroundOf (b : DBoard) (s : DState) (side : Int) (hn : BoardN b) (hs : s.Units.length < 1000000000000) : A_spec_GroundOf b s side = some (en_spec_GroundOf (groundWL b s side)) := by
 apply e_spec_GroundOf
 unfold groundWL
 rw [cast_of inj_spec_fgSide (c_spec_fgSide _ _ _ hn hs)]
 cases hg : gameB b s && inB 0 1 side with
 | false => rfl
 | true =>
  have hg2 := hg
  rw [Bool.and_eq_true] at hg2
  rw [if_neg (by simp), cast_of inj_spec_uGround (c_spec_uGround _ _ _ (StateG.ofB hg2.1 hn) (side_cases hg2.2))]
  rfl
theorem StateG.move {b : DBoard} {s : DState} (g : StateG b s) {u : DUnit} (hu : u ∈ s.Units) : MoveG b u.Kind s.Weather := by
 have hk := unit_kind (g.u u hu)
 have h := g.ok
 unfold stateB at h
 simp only [Bool.and_eq_true, inB_iff] at h
 exact ⟨g.bg, g.n, hk.1, hk.2, h.2.1.1, h.2.1.2⟩
def reachC (b : DBoard) (s : DState) (u : DUnit) : List Int := colI (fun i _ => inB 0 (kindO b u.Kind).Moves (vv (wayC b u.Kind s.Weather u.At) i)) (fun i _ => (i : Int)) b.Map.Terrain
theorem way_len {b : DBoard} {kind w : Int} (g : MoveG b kind w) {i : Int} (h1 : i < b.Map.Terrain.length) (h0 : 0 ≤ i) : (wayC b kind w i).length = b.Map.Terrain.length := by
 unfold wayC
 exact (dist_ok (ed_ok g) (by omega)).1.len
theorem c_impl_reachFrom (b : DBoard) (s : DState) (u : DUnit) (g : StateG b s) (hu : u ∈ s.Units) (h0 : 0 ≤ u.At) : A_impl_reachFrom b s u = some (en_impl_reachFrom (reachC b s u)) := by
 have ha := area_b g.bg
 have hat := unit_at (g.u u hu)
 have hl := way_len (g.move hu) (i := u.At) (by omega) h0
 have hkd := kind_get g.bg (g.u u hu)
 have hc : A_hT_impl_reachFrom_1 (wayC b u.Kind s.Weather u.At) b u b = some (en_hT_impl_reachFrom_1 (reachC b s u, wayC b u.Kind s.Weather u.At, b, u)) := by
  apply e_hT_impl_reachFrom_1
  unfold reachC
  refine col_loop (fun k acc => L_hT_impl_reachFrom_1_L3 acc (wayC b u.Kind s.Weather u.At) b u b.Map.Terrain.length k) b.Map.Terrain (fun i _ => inB 0 (kindO b u.Kind).Moves (vv (wayC b u.Kind s.Weather u.At) i)) (fun i _ => (i : Int)) (fun acc => some (en_hT_impl_reachFrom_1 (acc, wayC b u.Kind s.Weather u.At, b, u))) ?_ (fun i x acc hx hi hacc => ?_) _ rfl
  ·intro acc _ r hr
   apply e_hT_impl_reachFrom_1_L3
   rw [if_neg (by simp), give_at ok_cI rfl, ← hr]
   rfl
  ·intro r hr
   have hx : A_impl_reachFrom_1 (wayC b u.Kind s.Weather u.At) b u i = some (en_impl_reachFrom_1 (inB 0 (kindO b u.Kind).Moves (vv (wayC b u.Kind s.Weather u.At) i), wayC b u.Kind s.Weather u.At, b, u)) := by
    apply e_impl_reachFrom_1
    rw [ixA_at sl_cI rfl (vv_get (by omega)), ixA_get sl_cKind _ _ hkd.1, kk_impl_inRange]
    rfl
   apply e_hT_impl_reachFrom_1_L3
   rw [if_pos (by simpa using hi), cast_of inj_impl_reachFrom_1 hx, wrap_id (n := (i : Int) + 1) (by omega) (by omega)]
   cases hc : inB 0 (kindO b u.Kind).Moves (vv (wayC b u.Kind s.Weather u.At) i) with
   | true =>
    rw [hc, if_pos rfl] at hr
    rw [if_pos rfl, apR_eq rt_cI rfl (xs := [(i : Int)]) (Src.row (n := 1) ok_cI rfl rfl) rfl rfl (by simp; omega) (by simp; omega) rfl]
    exact hr
   | false =>
    rw [hc, if_neg (by simp)] at hr
    rw [if_neg (by simp)]
    exact hr
 apply e_impl_reachFrom
 obtain ⟨n, hn⟩ := Int.eq_ofNat_of_zero_le h0
 have hr := c_impl_relaxed b u.Kind s.Weather n (g.move hu) (by omega)
 rw [← hn] at hr
 rw [cast_of inj_impl_relaxed hr, cast_of inj_hT_impl_reachFrom_1 hc]
 rfl
theorem vv_count (p : Int → Bool) (l : List Int) : ((List.range l.length).filter fun i => p (vv l i)).length = (l.filter p).length := by
 have e : (List.range l.length).map (vv l) = l := by
  refine List.ext_getElem (by simp) fun k h1 h2 => ?_
  rw [List.getElem_map, List.getElem_range]
  have := vv_get h2
  rw [List.getElem?_eq_getElem h2] at this
  exact (Option.some.inj this).symm
 have := congrArg (fun x => (x.filter p).length) e
 rw [List.filter_map, List.length_map] at this
 exact this
theorem reach_count {b : DBoard} {s : DState} {u : DUnit} (g : StateG b s) (hu : u ∈ s.Units) (h0 : 0 ≤ u.At) : ((reachC b s u).length : Int) = reachN2 (wayC b u.Kind s.Weather u.At) (kindO b u.Kind).Moves := by
 have ha := area_b g.bg
 have hat := unit_at (g.u u hu)
 have hl := way_len (g.move hu) (i := u.At) (by omega) h0
 unfold reachC reachN2
 rw [colI_count (fun (i : Nat) => inB 0 (kindO b u.Kind).Moves (vv (wayC b u.Kind s.Weather u.At) i)), ← hl, vv_count]
theorem mob_unit {s : DState} {k : Int} (h : inB 0 ((s.Units.length : Int) - 1) k = true) : ∃ u, getI s.Units k = some u ∧ u ∈ s.Units ∧ (getI s.Units k).getD zU = u := by
 rw [inB_iff] at h
 obtain ⟨u, hu⟩ := getI_ex (l := s.Units) h.1 (by omega)
 obtain ⟨n, _, hn, _⟩ := getI_some hu
 exact ⟨u, hu, mem_of_get hn, by rw [hu]; rfl⟩
theorem c_impl_MobilityOf (b : DBoard) (s : DState) (k : Int) (hn : BoardN b) (hs : s.Units.length < 1000000000000) : A_impl_MobilityOf b s k = some (en_impl_MobilityOf (mobWL b s k)) := by
 apply e_impl_MobilityOf
 unfold mobWL
 rw [cast_of inj_impl_hasUnit (c_impl_hasUnit _ _ _ hn hs)]
 cases hg : gameB b s && inB 0 ((s.Units.length : Int) - 1) k with
 | false => rfl
 | true =>
  rw [Bool.and_eq_true] at hg
  have g := StateG.ofB hg.1 hn
  obtain ⟨u, hu, hm, hd⟩ := mob_unit hg.2
  rw [if_neg (by simp), ixA_get sl_cUnit _ _ hu, hd, if_pos rfl]
  by_cases h0 : u.At < 0
  ·rw [if_pos (by simpa using h0), if_pos h0]; rfl
  ·have hc := reach_count g hm (by omega)
   have h1 : (reachC b s u).length ≤ b.Map.Terrain.length := colI_len ..
   have ha := area_b g.bg
   rw [if_neg (by simpa using h0), if_neg h0, ixA_get sl_cUnit _ _ hu, cast_of inj_impl_reachFrom (c_impl_reachFrom _ _ _ g hm (by omega)), hc, wrap_id (by omega) (by omega)]
   rfl
theorem c_spec_uHas (b : DBoard) (s : DState) (k : Int) (hn : BoardN b) (hs : s.Units.length < 1000000000000) : A_spec_uHas b s k = some (en_spec_uHas (gameB b s && inB 0 ((s.Units.length : Int) - 1) k)) := by
 apply e_spec_uHas
 rw [cast_of inj_spec_sGood (c_spec_sGood _ _ hn hs), kk_spec_l1In, wrap_id (by omega) (by omega)]
 unfold gameB
 cases boardB b <;> cases stateB b s <;> simp [en_spec_uHas]
theorem c_spec_MobilityOf (b : DBoard) (s : DState) (k : Int) (hn : BoardN b) (hs : s.Units.length < 1000000000000) : A_spec_MobilityOf b s k = some (en_spec_MobilityOf (mobWL b s k)) := by
 apply e_spec_MobilityOf
 unfold mobWL
 rw [cast_of inj_spec_uHas (c_spec_uHas _ _ _ hn hs)]
 cases hg : gameB b s && inB 0 ((s.Units.length : Int) - 1) k with
 | false => rfl
 | true =>
  rw [Bool.and_eq_true] at hg
  have g := StateG.ofB hg.1 hn
  obtain ⟨u, hu, hm, hd⟩ := mob_unit hg.2
  rw [if_neg (by simp), ixA_get sl_cUnit _ _ hu, hd, if_pos rfl]
  by_cases h0 : u.At < 0
  ·rw [if_pos (by simpa using h0), if_pos h0]; rfl
  ·have ha := area_b g.bg
   have hat := unit_at (g.u u hm)
   have hl := way_len (g.move hm) (i := u.At) (by omega) (by omega)
   have hkd := kind_get g.bg (g.u u hm)
   obtain ⟨n, hnn⟩ := Int.eq_ofNat_of_zero_le (by omega : 0 ≤ u.At)
   have hr := c_spec_pFrom b u.Kind s.Weather n (g.move hm) (by omega)
   rw [← hnn] at hr
   rw [if_neg (by simpa using h0), if_neg h0, cast_of inj_spec_pFrom hr]
   generalize wayC b u.Kind s.Weather u.At = l at hl
   have e : reachN2 l (kindO b u.Kind).Moves - 1 = foldN (fun _ (m : Int) x => if inB 0 (kindO b u.Kind).Moves x then m + 1 else m) 0 (-1) l := by
    rw [foldN_cnt]
    show ((l.filter (inB 0 (kindO b u.Kind).Moves)).length : Int) - 1 = _
    omega
   rw [e]
   refine fold_loop (fun j (m : Int) => L_spec_MobilityOf_L8 b u m l l.length j) l (fun _ (m : Int) x => if inB 0 (kindO b u.Kind).Moves x then m + 1 else m) (fun j m => -1 ≤ m ∧ m < j) (fun m => some (en_spec_MobilityOf (m, true))) ?_ ?_ (-1) ⟨by omega, by omega⟩ _ rfl
   ·intro m hm r hr
    apply e_spec_MobilityOf_L8
    rw [if_neg (by simp)]
    exact hr
   ·intro j x m hx hj hm
    refine ⟨by split <;> omega, ?_⟩
    intro r hr
    apply e_spec_MobilityOf_L8
    rw [if_pos (by simpa using hj), ixA_at sl_cI rfl hx, ixA_get sl_cKind _ _ hkd.1, kk_spec_l1In, wrap_id (n := m + 1) (by omega) (by omega), wrap_id (n := (j : Int) + 1) (by omega) (by omega)]
    by_cases h : inB 0 (kindO b u.Kind).Moves x = true
    ·rw [if_pos h] at hr ⊢
     exact hr
    ·rw [if_neg h] at hr ⊢
     exact hr
theorem c_impl_FrontUnits_1 (s : DState) (side i : Int) (hl : s.Units.length < 1000000000000) (hs : inB 0 1 side = true) : A_impl_FrontUnits_1 s side i = some (en_impl_FrontUnits_1 (ownerL s.Units i == 1 - side, s, side)) := by
 apply e_impl_FrontUnits_1
 rw [cast_of inj_impl_ownerOf (c_impl_ownerOf _ _ hl), one_sub hs]
 rfl
theorem c_cf_impl_FrontUnits_1 (s : DState) (side : Int) (l : List Int) (hl : s.Units.length < 1000000000000) (hs : inB 0 1 side = true) (hq : l.length < 1000000000000) :
  A_cf_impl_FrontUnits_1 s side l = some (en_cf_impl_FrontUnits_1 (l.any (fun i => ownerL s.Units i == 1 - side), s, side)) := by
 have hi : A_xf_impl_FrontUnits_1 s side l = some (en_xf_impl_FrontUnits_1 (findI (fun i => ownerL s.Units i == 1 - side) l, s, side)) := by
  apply e_xf_impl_FrontUnits_1
  refine idx_loop (fun i => L_xf_impl_FrontUnits_1_L2 s side l l.length i) l (fun i => ownerL s.Units i == 1 - side) (fun i => some (en_xf_impl_FrontUnits_1 (i, s, side))) ?_ (fun i x hx hi => ?_) _ rfl
  ·intro _ h; apply e_xf_impl_FrontUnits_1_L2
   rw [← h]; simp [en_xf_impl_FrontUnits_1]
  ·intro _ h; apply e_xf_impl_FrontUnits_1_L2
   rw [if_pos (by simpa using hi), ixA_at sl_cI rfl hx, cast_of inj_impl_FrontUnits_1 (c_impl_FrontUnits_1 _ _ _ hl hs), wrap_id (by omega) (by omega)]
   exact h
 apply e_cf_impl_FrontUnits_1
 rw [cast_of inj_xf_impl_FrontUnits_1 hi, findI_any]
 rfl
theorem colN_fil {α : Type} (p : α → Bool) : ∀ (l : List α) (n : Nat), colN (fun _ x => p x) (fun _ x => x) n l = l.filter p
 | [], _ => rfl
 | x :: r, n => by
  unfold colN
  rw [List.filter_cons, colN_fil p r (n + 1)]
theorem of_unit {s : DState} {b : DBoard} {side k : Int} (g : StateG b s) (h : k ∈ ofL s.Units side) : ∃ u, getI s.Units k = some u ∧ (getI s.Units k).getD zU = u ∧ sm u.At := by
 obtain ⟨n, u, e, hnl, hu, hm, hd, _⟩ := unit_of h
 have := unit_at (g.u u hm)
 have := area_b g.bg
 exact ⟨u, hu, hd, by unfold sm; omega⟩
theorem c_impl_FrontUnits (b : DBoard) (s : DState) (side : Int) (hn : BoardN b) (hs : s.Units.length < 1000000000000) : A_impl_FrontUnits b s side = some (en_impl_FrontUnits (frontL b s side)) := by
 apply e_impl_FrontUnits
 unfold frontL
 rw [cast_of inj_impl_isLook (c_impl_isLook _ _ _ hn hs)]
 cases hg : gameB b s && inB 0 1 side with
 | false => rfl
 | true =>
  rw [Bool.and_eq_true] at hg
  have g := StateG.ofB hg.1 hn
  have hl := g.len
  have hol := of_len s.Units side
  rw [if_neg (by simp), if_pos rfl, cast_of inj_impl_unitsOf (c_impl_unitsOf _ _ hs), ← colN_fil (frontP b s.Units side) _ 0]
  refine col_loop (fun k acc => L_impl_FrontUnits_L5 acc b s side (ofL s.Units side) (ofL s.Units side).length k) (ofL s.Units side) (fun _ x => frontP b s.Units side x) (fun _ x => x) (fun acc => some (en_impl_FrontUnits (acc, true))) ?_ (fun i x acc hx hi hacc => ?_) _ rfl
  ·intro acc _ r hr
   apply e_impl_FrontUnits_L5
   rw [if_neg (by simp)]
   exact (cast_of inj_lb (a := (acc, true)) (gvTup (gvVs_cons (gvOwn ok_cI rfl) rfl)) _).trans hr
  ·intro r hr
   apply e_impl_FrontUnits_L5
   obtain ⟨u, hu, hd, hsm⟩ := of_unit g (mem_of_get hx)
   have hnb : (nbL b.Map u.At).length ≤ 6 := by unfold nbL; exact List.length_filter_le _ _
   rw [if_pos (by simpa using hi), ixA_at sl_cI rfl hx, ixA_get sl_cUnit _ _ hu, cast_of inj_impl_neighboursOn (c_impl_neighboursOn _ _ g.bg.s.b hsm), cast_of inj_cf_impl_FrontUnits_1 (c_cf_impl_FrontUnits_1 _ _ _ hs hg.2 (by omega)), wrap_id (n := (i : Int) + 1) (by omega) (by omega)]
   have e : frontP b s.Units side x = (nbL b.Map u.At).any fun i => ownerL s.Units i == 1 - side := by unfold frontP; rw [hd]
   rw [e] at hr
   dsimp only
   cases hc : (nbL b.Map u.At).any fun i => ownerL s.Units i == 1 - side with
   | true =>
    rw [hc, if_pos rfl] at hr
    rw [if_pos rfl, apR_eq rt_cI rfl (xs := [x]) (Src.row (n := 1) ok_cI rfl rfl) rfl rfl (by simp; omega) (by simp; omega) rfl]
    exact hr
   | false =>
    rw [hc, if_neg (by simp)] at hr
    rw [if_neg (by simp)]
    exact hr
theorem any_fold {α : Type} (p : α → Bool) : ∀ (l : List α) (a : Bool), l.foldl (fun a x => a || p x) a = (a || l.any p)
 | [], a => by simp
 | x :: r, a => by rw [List.foldl_cons, any_fold p r, List.any_cons, Bool.or_assoc]
theorem near_any (m : DMap) (us : List DUnit) (side i : Int) : foldN (fun _ (near : Bool) d => near || (decide (0 ≤ nextL m i d) && (ownerL us (nextL m i d) == 1 - side))) 0 false dl = (nbL m i).any fun k => ownerL us k == 1 - side := by
 rw [foldN_const (fun (near : Bool) d => near || (decide (0 ≤ nextL m i d) && (ownerL us (nextL m i d) == 1 - side))), any_fold, Bool.false_or]
 unfold nbL
 rw [List.any_filter, List.any_map]
 rfl
theorem l_spec_FrontUnits_L9 {b : DBoard} {s : DState} {side : Int} (g : StateG b s) (hs : inB 0 1 side = true) (acc xs : List Int) (i n : Nat) (hi : i < 1000000) (ha : acc.length ≤ i) {x : Int} (hx : x ∈ ofL s.Units side) :
  OLe (if frontP b s.Units side x then L_spec_FrontUnits_L5_1 (acc ++ [x]) xs b s side n ((i : Int) + 1) else L_spec_FrontUnits_L5_1 acc xs b s side n ((i : Int) + 1)) (L_spec_FrontUnits_L9 acc xs b s side x false 0 n i) := by
 obtain ⟨u, hu, hd, hsm⟩ := of_unit g hx
 have hl := g.len
 unfold frontP
 rw [hd, ← near_any]
 refine fold_loop (fun j near => L_spec_FrontUnits_L9 acc xs b s side x near j n i) dl (fun _ (near : Bool) d => near || (decide (0 ≤ nextL b.Map u.At d) && (ownerL s.Units (nextL b.Map u.At d) == 1 - side))) (fun _ _ => True)
  (fun near => if near then L_spec_FrontUnits_L5_1 (acc ++ [x]) xs b s side n ((i : Int) + 1) else L_spec_FrontUnits_L5_1 acc xs b s side n ((i : Int) + 1)) ?_ ?_ false trivial
 ·intro near _ r hr
  apply e_spec_FrontUnits_L9
  rw [if_neg (by simp [dl]), wrap_id (n := (i : Int) + 1) (by omega) (by omega)]
  cases near with
  | true =>
   rw [if_pos rfl] at hr
   rw [if_pos rfl, apR_eq rt_cI rfl (xs := [x]) (Src.row (n := 1) ok_cI rfl rfl) rfl rfl (by simp; omega) (by simp; omega) rfl]
   exact hr
  | false =>
   rw [if_neg (by simp)] at hr
   rw [if_neg (by simp)]
   exact hr
 ·intro j d near hd hj _
  refine ⟨trivial, ?_⟩
  intro r hr
  obtain ⟨rfl, h6⟩ := dl_get hd
  apply e_spec_FrontUnits_L9
  rw [if_pos (by simp; omega), ixA_get sl_cUnit _ _ hu, cast_of inj_spec_mNext (c_spec_mNext _ _ _ g.bg.s.b hsm (by omega) (by omega)), wrap_id (n := (j : Int) + 1) (by omega) (by omega)]
  cases near with
  | true =>
   rw [Bool.true_or] at hr
   rw [if_pos rfl]
   exact hr
  | false =>
   rw [Bool.false_or] at hr
   rw [if_neg (by simp)]
   by_cases h0 : 0 ≤ nextL b.Map u.At j
   ·rw [decide_eq_true h0, Bool.true_and] at hr
    rw [if_pos (by simpa using h0), cast_of inj_spec_sOwner (c_spec_sOwner _ _ (by omega)), one_sub hs]
    exact hr
   ·rw [decide_eq_false h0, Bool.false_and] at hr
    rw [if_neg (by simpa using h0)]
    exact hr
theorem c_spec_FrontUnits (b : DBoard) (s : DState) (side : Int) (hn : BoardN b) (hs : s.Units.length < 1000000000000) : A_spec_FrontUnits b s side = some (en_spec_FrontUnits (frontL b s side)) := by
 apply e_spec_FrontUnits
 unfold frontL
 rw [cast_of inj_spec_fgSide (c_spec_fgSide _ _ _ hn hs)]
 cases hg : gameB b s && inB 0 1 side with
 | false => rfl
 | true =>
  rw [Bool.and_eq_true] at hg
  have g := StateG.ofB hg.1 hn
  have hl := g.len
  have hol := of_len s.Units side
  rw [if_neg (by simp), if_pos rfl, cast_of inj_spec_sOf (c_spec_sOf _ _ hs), ← colN_fil (frontP b s.Units side) _ 0]
  have := col_loop (fun k acc => if k = 0 then L_spec_FrontUnits_L5 (ofL s.Units side) acc b s side (ofL s.Units side).length k else L_spec_FrontUnits_L5_1 acc (ofL s.Units side) b s side (ofL s.Units side).length k) (ofL s.Units side) (fun _ x => frontP b s.Units side x) (fun _ x => x) (fun acc => some (en_spec_FrontUnits (acc, true))) (fun acc _ r hr => by
    split
    ·apply e_spec_FrontUnits_L5
     rw [if_neg (by simp)]
     exact (cast_of inj_lb (a := (acc, true)) (gvTup (gvVs_cons (gvOwn ok_cI rfl) rfl)) _).trans hr
    ·apply e_spec_FrontUnits_L5_1
     rw [if_neg (by simp)]
     exact (cast_of inj_lb (a := (acc, true)) (gvTup (gvVs_cons (gvOwn ok_cI rfl) rfl)) _).trans hr) (fun i x acc hx hi hacc r hr => by
    rw [if_neg (show ¬ (i : Int) + 1 = 0 by omega), if_neg (show ¬ (i : Int) + 1 = 0 by omega)] at hr
    have nx := l_spec_FrontUnits_L9 g hg.2 acc (ofL s.Units side) i (ofL s.Units side).length (by omega) hacc (mem_of_get hx) r hr
    split
    ·apply e_spec_FrontUnits_L5
     rw [if_pos (by simpa using hi), oxA_at rt_cI rfl (by omega)]
     exact (ld_at (E := tI) rfl rfl ok_cI (fun _ => rfl) (l := ofL s.Units side) rfl rfl hx _).trans nx
    ·apply e_spec_FrontUnits_L5_1
     rw [if_pos (by simpa using hi), oxA_at rt_cI rfl (by omega)]
     exact (ld_at (E := tI) rfl rfl ok_cI (fun _ => rfl) (l := ofL s.Units side) rfl rfl hx _).trans nx)
  rw [if_pos rfl] at this
  exact this _ rfl
theorem l_moved_1 (b : DBoard) (hb : BoardN b) (side f0 f1 : Int) : ∀ (m : Nat) (us : List DUnit) (N : Nat) (c : Dl1Cur) (t w k n : Int), us.length = N → N ≤ 20 → k ≤ m → m ≤ 10 → Cu c n → n + 10 * m ≤ Far - 1000 →
  OK (L_sc_moved_L2_1 us c b t w 0 N N f0 f1 side k) fun r => ∃ v : DState × Dl1Cur, r = en_sc_moved v ∧ v.1.Units.length ≤ 20 ∧ Cu v.2 (n + 10 * m) := by
 intro m
 induction m with
 | zero =>
  intro us N c t w k n hN h20 hk hm hc hn
  refine OK.le (e_sc_moved_L2_1 _ _ _ _ _ _ _ _ _ _ _ _) ?_
  rw [if_neg (by simp; omega)]
  exact OK.cast inj_state (a := ⟨t, w, us⟩) (gvStT hN.symm rfl) (OK.some ⟨(_, _), rfl, by show us.length ≤ 20; omega, hc.to⟩)
 | succ m ih =>
  intro us N c t w k n hN h20 hk hm hc hn
  unfold Far at hn
  refine OK.le (e_sc_moved_L2_1 _ _ _ _ _ _ _ _ _ _ _ _) ?_
  refine OK.ite (fun hk0 => ?_) (fun _ => ?_)
  ·rw [decide_eq_true_eq] at hk0
   refine OK.cast inj_state (a := ⟨t, w, us⟩) (gvState' hN.symm rfl) ?_
   rw [cast_of inj_spec_sOf (c_spec_sOf _ _ (by dsimp only; omega)), gd_eq (fun _ => rfl)]
   dsimp only
   have hol := of_len us side
   refine OK.ite (fun _ => ?_) (fun hz => ?_)
   ·exact OK.cast inj_state (a := ⟨t, w, us⟩) (gvStT hN.symm rfl) (OK.some ⟨(_, _), rfl, by show us.length ≤ 20; omega, hc.to⟩)
   ·refine OK.cast inj_state (a := ⟨t, w, us⟩) (gvState' hN.symm rfl) ?_
    rw [cast_of inj_spec_sOwn (c_spec_sOwn _ (by dsimp only; omega)), gd_eq (fun _ => rfl)]
    refine koA inj_sc_pick (o_sc_pick _ _ _ hc (by unfold Far; omega)) fun p hp => ?_
    obtain ⟨p, c1⟩ := p
    obtain ⟨p0, p1, hc1⟩ := hp
    dsimp only at p0 p1 hc1 ⊢
    have hz' : (ofL us side).length ≠ 0 := fun e => hz (by rw [e]; rfl)
    obtain ⟨q, rfl⟩ := Int.eq_ofNat_of_zero_le p0
    have hq : q < (ofL us side).length := by omega
    have hx := List.getElem?_eq_getElem hq
    obtain ⟨j, u, e, hj, hu, hmem, _, _⟩ := unit_of (mem_of_get hx)
    obtain ⟨j', e', hj', _⟩ := getI_some hu
    obtain rfl : j = j' := by omega
    rw [oxA_at rt_cI rfl hq]
    refine OK.eq (ld_at (E := tI) rfl rfl ok_cI (fun _ => rfl) (l := ofL us side) rfl rfl hx _) ?_
    refine koA inj_sc_place (o_sc_place _ _ _ hc1 (by unfold Far; omega)) fun v hv => ?_
    rw [e, oxA_at rt_cUnit rfl hj, stF (f := 2) ok_cUnit rfl rfl hj' rfl (by omega) rfl (y' := { u with At := v.1 }) rfl]
    have hlen : (us.set j { u with At := v.1 }).length = us.length := List.length_set ..
    refine OK.cast inj_state (a := ⟨t, w, us.set j { u with At := v.1 }⟩) (gvState' hlen.symm rfl) ?_
    rw [cast_of inj_spec_sGood (c_spec_sGood _ _ hb (by dsimp only; omega)), wrap_id (n := k - 1) (by omega) (by omega)]
    refine OK.ite (fun _ => ?_) (fun _ => ?_)
    ·obtain ⟨r, h1, v', h2, h3, h4⟩ := ih (us.set j { u with At := v.1 }) us.length v.2 t w (k - 1) (n + 6) hlen (by omega) (by omega) (by omega) hv.to (by unfold Far; omega)
     exact ⟨r, h1, v', h2, h3, h4.to⟩
    ·obtain ⟨r, h1, v', h2, h3, h4⟩ := ih us N v.2 t w (k - 1) (n + 6) hN h20 (by omega) (by omega) hv.to (by unfold Far; omega)
     exact ⟨r, h1, v', h2, h3, h4.to⟩
  ·exact OK.cast inj_state (a := ⟨t, w, us⟩) (gvStT hN.symm rfl) (OK.some ⟨(_, _), rfl, by show us.length ≤ 20; omega, hc.to⟩)
theorem l_moved (b : DBoard) (hb : BoardN b) (side f0 f1 : Int) (s : DState) (h20 : s.Units.length ≤ 20) : ∀ (m : Nat) (c : Dl1Cur) (k n : Int), k ≤ m → m ≤ 10 → Cu c n → n + 10 * m ≤ Far - 1000 →
  OK (L_sc_moved_L2 c b s f0 f1 side k) fun r => ∃ v : DState × Dl1Cur, r = en_sc_moved v ∧ v.1.Units.length ≤ 20 ∧ Cu v.2 (n + 10 * m) := by
 intro m
 induction m with
 | zero =>
  intro c k n hk hm hc hn
  refine OK.le (e_sc_moved_L2 _ _ _ _ _ _ _) ?_
  rw [if_neg (by simp; omega)]
  exact OK.some ⟨(_, _), rfl, h20, hc.to⟩
 | succ m ih =>
  intro c k n hk hm hc hn
  unfold Far at hn
  refine OK.le (e_sc_moved_L2 _ _ _ _ _ _ _) ?_
  refine OK.ite (fun hk0 => ?_) (fun _ => ?_)
  ·rw [decide_eq_true_eq] at hk0
   rw [cast_of inj_spec_sOf (c_spec_sOf _ _ (by omega))]
   have hol := of_len s.Units side
   refine OK.ite (fun _ => ?_) (fun hz => ?_)
   ·exact OK.some ⟨(_, _), rfl, h20, hc.to⟩
   ·rw [cast_of inj_spec_sOwn (c_spec_sOwn _ (by omega))]
    refine koA inj_sc_pick (o_sc_pick _ _ _ hc (by unfold Far; omega)) fun p hp => ?_
    obtain ⟨p, c1⟩ := p
    obtain ⟨p0, p1, hc1⟩ := hp
    dsimp only at p0 p1 hc1 ⊢
    have hz' : (ofL s.Units side).length ≠ 0 := fun e => hz (by rw [e]; rfl)
    obtain ⟨q, rfl⟩ := Int.eq_ofNat_of_zero_le p0
    have hq : q < (ofL s.Units side).length := by omega
    have hx := List.getElem?_eq_getElem hq
    obtain ⟨j, u, e, hj, hu, hmem, _, _⟩ := unit_of (mem_of_get hx)
    obtain ⟨j', e', hj', _⟩ := getI_some hu
    obtain rfl : j = j' := by omega
    rw [oxA_at rt_cI rfl hq]
    refine OK.eq (ld_at (E := tI) rfl rfl ok_cI (fun _ => rfl) (l := ofL s.Units side) rfl rfl hx _) ?_
    refine koA inj_sc_place (o_sc_place _ _ _ hc1 (by unfold Far; omega)) fun v hv => ?_
    rw [e, oxA_at rt_cUnit rfl hj, stF (f := 2) ok_cUnit rfl rfl hj' rfl (by omega) rfl (y' := { u with At := v.1 }) rfl]
    have hlen : (s.Units.set j { u with At := v.1 }).length = s.Units.length := List.length_set ..
    refine OK.cast inj_state (a := ⟨s.Turn, s.Weather, s.Units.set j { u with At := v.1 }⟩) (gvState' hlen.symm rfl) ?_
    rw [cast_of inj_spec_sGood (c_spec_sGood _ _ hb (by dsimp only; omega)), wrap_id (n := k - 1) (by omega) (by omega)]
    refine OK.ite (fun _ => ?_) (fun _ => ?_)
    ·obtain ⟨r, h1, v', h2, h3, h4⟩ := l_moved_1 b hb side f0 f1 m (s.Units.set j { u with At := v.1 }) s.Units.length v.2 s.Turn s.Weather (k - 1) (n + 6) hlen h20 (by omega) (by omega) hv.to (by unfold Far; omega)
     exact ⟨r, h1, v', h2, h3, h4.to⟩
    ·obtain ⟨r, h1, v', h2, h3, h4⟩ := ih v.2 (k - 1) (n + 6) (by omega) (by omega) hv.to (by unfold Far; omega)
     exact ⟨r, h1, v', h2, h3, h4.to⟩
  ·exact OK.some ⟨(_, _), rfl, h20, hc.to⟩
theorem o_sc_moved (c : Dl1Cur) (b : DBoard) (s : DState) (side : Int) (hb : BoardN b) (hu : s.Units.length ≤ 20) (n : Int) (hc : Cu c n) (hn : n ≤ Far - 2000) : ∃ v, A_sc_moved c b s side = some (en_sc_moved v) ∧ (v.1.Units.length ≤ 20 ∧ Cu v.2 (n + 40)) := by
 refine okA (e_sc_moved _ _ _ _) ?_
 unfold Far at hn
 refine koA inj_sc_pick (o_sc_pick _ _ _ hc (by unfold Far; omega)) fun p hp => ?_
 obtain ⟨p0, p1, hc1⟩ := hp
 rw [wrap_id (n := 1 + p.1) (by omega) (by omega)]
 obtain ⟨r, h1, v, h2, h3, h4⟩ := l_moved b hb side 0 0 s hu 3 p.2 (1 + p.1) (n + 2) (by omega) (by omega) hc1 (by unfold Far; omega)
 exact ⟨r, h1, v, h2, h3, h4.to⟩
theorem o_spec_DrawCompareStates (x : KSl) (h : Arg x) : ∃ v, A_spec_DrawCompareStates x = some (en_spec_DrawCompareStates v) ∧ (SetupN v.1 ∧ v.2.1.Units.length ≤ 20 ∧ v.2.2.1.Units.length ≤ 20) := by
 refine okA (e_spec_DrawCompareStates _) ?_
 refine koA inj_sc_match (o_sc_match _ 0 h.cu (by unfold Far; omega)) fun r hr => ?_
 obtain ⟨⟨y, s⟩, c1⟩ := r
 obtain ⟨hn, hu, hc1⟩ := hr
 dsimp only at hn hu hc1 ⊢
 have fin : OK (cast en_sc_pick (A_sc_pick c1 2) fun (v : Int × Dl1Cur) => cast en_sc_pick (A_sc_pick v.snd 20) fun (w : Int × Dl1Cur) => some (AV.tup [AV.agg (cSetup y), AV.agg (cState s), AV.agg (cState s), I (IntKind.wrap IntKind.i64 (v.fst + IntKind.wrap IntKind.i64 (Int.tdiv w.fst 19)))], []))
   fun r => ∃ v : DSetup × DState × DState × Int, r = en_spec_DrawCompareStates v ∧ (SetupN v.1 ∧ v.2.1.Units.length ≤ 20 ∧ v.2.2.1.Units.length ≤ 20) := by
  refine koA inj_sc_pick (o_sc_pick _ _ _ hc1 (by unfold Far; omega)) fun p hp => ?_
  refine koA inj_sc_pick (o_sc_pick _ _ _ hp.2.2 (by unfold Far; omega)) fun q hq => ?_
  exact OK.some ⟨(_, _, _, _), rfl, hn, hu, hu⟩
 rw [cast_of inj_spec_tGood (c_spec_tGood _ hn)]
 refine OK.ite (fun _ => ?_) (fun _ => fin)
 rw [cast_of inj_spec_sGood (c_spec_sGood _ _ hn.b (by omega))]
 refine OK.ite (fun _ => ?_) (fun _ => fin)
 refine koA inj_sc_pick (o_sc_pick _ _ _ hc1 (by unfold Far; omega)) fun p hp => ?_
 refine koA inj_sc_moved (o_sc_moved _ _ _ _ hn.b hu _ hp.2.2 (by unfold Far; omega)) fun v hv => ?_
 refine koA inj_sc_pick (o_sc_pick _ _ _ hv.2 (by unfold Far; omega)) fun p hp => ?_
 refine koA inj_sc_pick (o_sc_pick _ _ _ hp.2.2 (by unfold Far; omega)) fun q hq => ?_
 exact OK.some ⟨(_, _, _, _), rfl, hn, hu, hv.1⟩
theorem o_spec_DrawFrontUnits (x : KSl) (h : Arg x) : ∃ v, A_spec_DrawFrontUnits x = some (en_spec_DrawFrontUnits v) ∧ (BoardN v.1 ∧ v.2.1.Units.length ≤ 20) := by
 refine okA (e_spec_DrawFrontUnits _) ?_
 refine koA inj_sc_beaten (o_sc_beaten _ 0 h.cu (by unfold Far; omega)) fun r hr => ?_
 refine koA inj_sc_pick (o_sc_pick _ _ _ hr.2.2 (by unfold Far; omega)) fun p hp => ?_
 refine koA inj_sc_pick (o_sc_pick _ _ _ hp.2.2 (by unfold Far; omega)) fun q hq => ?_
 exact OK.some ⟨(r.1.1, r.1.2.1, IntKind.wrap .i64 (p.1 + IntKind.wrap .i64 (Int.tdiv q.1 19))), rfl, hr.1, hr.2.1⟩
theorem o_spec_DrawMobilityOf (x : KSl) (h : Arg x) : ∃ v, A_spec_DrawMobilityOf x = some (en_spec_DrawMobilityOf v) ∧ (BoardN v.1 ∧ v.2.1.Units.length ≤ 20) := by
 refine okA (e_spec_DrawMobilityOf _) ?_
 refine koA inj_sc_beaten (o_sc_beaten _ 0 h.cu (by unfold Far; omega)) fun r hr => ?_
 exact OK.some ⟨(_, _, _), rfl, hr.1, hr.2.1⟩
theorem c_laws_sameInts (l : List Int) (hl : l.length < 1000000000000) : A_laws_sameInts l l = some (en_laws_sameInts true) := by
 apply e_laws_sameInts
 rw [if_neg (by simp)]
 refine fold_loop (fun j (_ : Unit) => L_laws_sameInts_L4 l l l.length j) l (fun _ u _ => u) (fun _ _ => True) (fun _ => some (en_laws_sameInts true)) ?_ ?_ () trivial _ rfl
 ·intro _ _ r hr
  apply e_laws_sameInts_L4
  rw [if_neg (by simp)]
  exact hr
 ·intro j x _ hx hj _
  refine ⟨trivial, ?_⟩
  intro r hr
  apply e_laws_sameInts_L4
  rw [if_pos (by simpa using hj), ixA_at sl_cI rfl hx, ixA_at sl_cI rfl hx, if_neg (by simp), wrap_id (n := (j : Int) + 1) (by omega) (by omega)]
  exact hr
theorem front_len (b : DBoard) (s : DState) (side : Int) (h : s.Units.length ≤ 20) : (frontL b s side).1.length ≤ 20 := by
 have h1 := of_len s.Units side
 unfold frontL
 split
 ·have := List.length_filter_le (frontP b s.Units side) (ofL s.Units side)
  dsimp only
  omega
 ·exact Nat.zero_le _
theorem sgn_b (a b : Int) : -1 ≤ sgnL a b ∧ sgnL a b ≤ 1 := by
 unfold sgnL
 split
 ·omega
 ·split <;> omega
theorem law_laws_FnValues (code more : KSl) (hc : Arg code) (hm : Arg more) : A_laws_FnValues code more = some (B true, []) := by
 have key : OK (P_laws_FnValues code more) fun r => r = (B true, []) := by
  unfold P_laws_FnValues
  have fin : OK (cast en_spec_DrawFrontUnits (A_spec_DrawFrontUnits more) fun (v : DBoard × DState × Int) => cast en_impl_FrontUnits (A_impl_FrontUnits v.fst v.snd.fst v.snd.snd) fun (l : List Int × Bool) => cast en_spec_FrontUnits (A_spec_FrontUnits v.fst v.snd.fst v.snd.snd) fun (l' : List Int × Bool) => cast en_impl_GroundOf (A_impl_GroundOf v.fst v.snd.fst v.snd.snd) fun (g : Int × Bool) => cast en_spec_GroundOf (A_spec_GroundOf v.fst v.snd.fst v.snd.snd) fun (g' : Int × Bool) => cast en_spec_DrawMobilityOf (A_spec_DrawMobilityOf more) fun (u : DBoard × DState × Int) => cast en_impl_MobilityOf (A_impl_MobilityOf u.fst u.snd.fst u.snd.snd) fun (m : Int × Bool) => cast en_spec_MobilityOf (A_spec_MobilityOf u.fst u.snd.fst u.snd.snd) fun (m' : Int × Bool) =>
    if (l.snd == l'.snd) = true then cast en_laws_sameInts (A_laws_sameInts l.fst l'.fst) fun (e : Bool) => if e = true then if (g.snd == g'.snd) = true then if (g.fst == g'.fst) = true then if (m.snd == m'.snd) = true then some (B (m.fst == m'.fst), []) else some (B false, []) else some (B false, []) else some (B false, []) else some (B false, []) else some (B false, []))
    fun (r : R) => r = (B true, []) := by
   refine koA inj_spec_DrawFrontUnits (o_spec_DrawFrontUnits _ hm) fun v hv => ?_
   obtain ⟨b, s, side⟩ := v
   obtain ⟨hn, hu⟩ := hv
   dsimp only at hn hu ⊢
   rw [cast_of inj_impl_FrontUnits (c_impl_FrontUnits _ _ _ hn (by omega)), cast_of inj_spec_FrontUnits (c_spec_FrontUnits _ _ _ hn (by omega)), cast_of inj_impl_GroundOf (c_impl_GroundOf _ _ _ hn (by omega)), cast_of inj_spec_GroundOf (c_spec_GroundOf _ _ _ hn (by omega))]
   refine koA inj_spec_DrawMobilityOf (o_spec_DrawMobilityOf _ hm) fun w hw => ?_
   obtain ⟨b2, s2, k⟩ := w
   obtain ⟨hn2, hu2⟩ := hw
   dsimp only at hn2 hu2 ⊢
   have hfl := front_len b s side hu
   rw [cast_of inj_impl_MobilityOf (c_impl_MobilityOf _ _ _ hn2 (by omega)), cast_of inj_spec_MobilityOf (c_spec_MobilityOf _ _ _ hn2 (by omega)), if_pos (by simp), cast_of inj_laws_sameInts (c_laws_sameInts _ (by omega)), if_pos rfl, if_pos (by simp), if_pos (by simp), if_pos (by simp)]
   exact ⟨_, rfl, by simp⟩
  refine koA inj_laws_big (o_laws_big _ _) fun v0 _ => ?_
  refine OK.ite (fun _ => OK.some rfl) (fun _ => ?_)
  refine koA inj_spec_DrawValueOf (o_spec_DrawValueOf _ hc) fun v hv => ?_
  obtain ⟨x, s, side⟩ := v
  obtain ⟨hn, hu⟩ := hv
  dsimp only at hn hu ⊢
  rw [cast_of inj_impl_ValueOf (c_impl_ValueOf _ _ _ hn (by omega)), cast_of inj_spec_ValueOf (c_spec_ValueOf _ _ _ hn (by omega)), if_neg (by simp), if_neg (by simp)]
  refine OK.ite (fun hok => ?a) (fun _ => ?b)
  case' a =>
   have hg : (gameX x s && inB 0 1 side) = true := by
    unfold valWL at hok
    cases hg : gameX x s && inB 0 1 side with
    | true => rfl
    | false => rw [hg] at hok; cases hok
   have hg2 := hg
   rw [Bool.and_eq_true] at hg2
   obtain ⟨p1, p2, p3⟩ := gameX_parts hg2.1
   have hb := val_b side (StateG.of p3 hn.b.m p2)
   have e1 : valWL x s side = (valL x s side, true) := by unfold valWL; rw [if_pos hg]
   have e2 : valWL x s (1 - side) = (-valL x s side, true) := by unfold valWL; rw [if_pos (by rw [hg2.1, side_other hg2.2]; rfl), val_opp]
   rw [one_sub hg2.2, cast_of inj_impl_ValueOf (c_impl_ValueOf _ _ _ hn (by omega)), e1, e2, if_neg (by simp), if_neg (by rw [wrap_id (by dsimp only; omega) (by dsimp only; omega)]; simp)]
  all_goals
   refine koA inj_spec_DrawCompareStates (o_spec_DrawCompareStates _ hm) fun v hv => ?_
   obtain ⟨y, t, u, k⟩ := v
   obtain ⟨hn, ht, hu⟩ := hv
   dsimp only at hn ht hu ⊢
   rw [cast_of inj_impl_CompareStates (c_impl_CompareStates _ _ _ _ hn (by omega) (by omega)), cast_of inj_spec_CompareStates (c_spec_CompareStates _ _ _ _ hn (by omega) (by omega)), cast_of inj_impl_CompareStates (c_impl_CompareStates _ _ _ _ hn (by omega) (by omega)), if_neg (by simp), if_neg (by simp)]
   refine OK.ite (fun hok => ?_) (fun _ => fin)
   have hg : ((gameX y t && stateB y.Board u) && inB 0 1 k) = true := by
    unfold cmpWL at hok
    cases hg : (gameX y t && stateB y.Board u) && inB 0 1 k with
    | true => rfl
    | false => rw [hg] at hok; cases hok
   have hg2 := hg
   rw [Bool.and_eq_true, Bool.and_eq_true] at hg2
   obtain ⟨p1, p2, p3⟩ := gameX_parts hg2.1.1
   have hgu : gameX y u = true := by unfold gameX; rw [p1, hg2.1.2]; rfl
   have e1 : cmpWL y t u k = (sgnL (valL y t k) (valL y u k), true) := by unfold cmpWL; rw [if_pos hg]
   have e2 : cmpWL y u t k = (-sgnL (valL y t k) (valL y u k), true) := by unfold cmpWL; rw [if_pos (by rw [hgu, p2, hg2.2]; rfl), sgn_opp]
   have hb := sgn_b (valL y t k) (valL y u k)
   rw [e1, e2, if_neg (by simp), if_neg (by rw [wrap_id (by dsimp only; omega) (by dsimp only; omega)]; simp)]
   exact fin
 obtain ⟨r, h1, rfl⟩ := key
 exact e_laws_FnValues _ _ _ h1
end Go.Ev
