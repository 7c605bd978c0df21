/-
  C2: one of the texts behind a proof of laws.FnSupply: what the functions answer
  Its conditions: none of its own.
-/
import Derived.Test.YtpaoafaegpldoaaGreatDoorC1
set_option maxRecDepth 100000
set_option linter.unusedVariables false
set_option linter.unusedSectionVars false
set_option linter.unusedSimpArgs false
set_option linter.unnecessarySimpa false
namespace Go.Ev
open Go Go.Proofs
variable [Inhabited Known]
theorem fill_get {α : Type} (x z : α) (i k : Nat) : (List.replicate i x ++ List.replicate (k + 1) z)[i]? = some z := by
  rw [List.getElem?_append_right (by simp), List.length_replicate, Nat.sub_self, List.replicate_succ]
  rfl
theorem seed_get {op : List Bool} {st : St2} {i : Int} {o : Bool} (h : getI op i = some o) : seedB op st i = if o = true then (st.1.set i.toNat 0, st.2 ++ [i]) else st := by
  unfold seedB
  rw [h]
  rfl
theorem visit_get {op : List Bool} {d : Int} {st : St2} {k : Int} {o : Bool} (h : getI op k = some o) : visitB op d st k = if o = true then (if farL st k < 0 then (st.1.set k.toNat (d + 1), st.2 ++ [k]) else st) else st := by
  unfold visitB farL
  rw [h]
  cases o with
  | false => simp
  | true => simp
structure SpreadOk (m : DMap) (op : List Bool) (src : List Int) : Prop where
  n : (op.length : Int) = m.Width * m.Height
  w : 0 < m.Width ∧ 0 < m.Height
  l : op.length ≤ 100
  s : ∀ i ∈ src, 0 ≤ i ∧ i < op.length
  q : src.length ≤ 20
  b : MapB m
theorem SpreadOk.nb {m : DMap} {op : List Bool} {src : List Int} (h : SpreadOk m op src) {i k : Int} (hk : k ∈ nbL m i) : 0 ≤ k ∧ k < op.length := by
  unfold nbL at hk
  rw [List.mem_filter, List.mem_map] at hk
  obtain ⟨⟨d, _, rfl⟩, h0⟩ := hk
  have := nextL_area h.w.1 h.w.2 i d
  have := h.n
  exact ⟨by simpa using h0, by omega⟩
theorem l_impl_spread_L15 {m : DMap} {op : List Bool} {src : List Int} (ok : SpreadOk m op src) : ∀ (f a : Nat) (st : St2), totB st ≤ a + f → a + f ≤ 500 → BI op.length src a st →
    L_impl_spread_L15 st.1 st.2 m op 0 op.length op.length a = some (en_impl_spread (runB m op f a st).1) := by
  intro f
  induction f with
  | zero =>
    intro a st ht hf hb
    apply e_impl_spread_L15
    unfold P_impl_spread_L15
    have : st.2.length ≤ totB st := by unfold totB; omega
    rw [if_neg (by simp; omega), ← hb.len, give_at ok_cI rfl]
    rfl
  | succ f ih =>
    intro a st ht hf hb
    apply e_impl_spread_L15
    unfold P_impl_spread_L15 runB
    by_cases ha : a < st.2.length
    · obtain ⟨h0, h1, h2, h3, h4⟩ := hb.start ha
      have hq : st.2[a]? = some (quL st a) := by unfold quL; rw [List.getD_eq_getElem?_getD, List.getElem?_eq_getElem ha]; rfl
      have hl := ok.l
      rw [if_pos (by simpa using ha), if_pos ha, oxA_at rt_cI rfl ha]
      refine (ld_at (E := tI) rfl rfl ok_cI (fun _ => rfl) (l := st.2) rfl rfl hq _).trans ?_
      rw [k_impl_neighboursOn _ _ (c_impl_neighboursOn _ _ ok.b (by unfold sm; omega))]
      have hst := hb.step (m := m) rfl ha
      have nx := ih (a + 1) (stepB m op a st) (by omega) (by omega) hst.1
      refine fold_loop (fun j (w : St2) => L_impl_spread_L18 w.1 w.2 m op 0 op.length op.length a (nbL m (quL st a)) (nbL m (quL st a)).length j) (nbL m (quL st a)) (fun _ w k => visitB op (farL st (quL st a)) w k)
        (fun (_ : Nat) (w : St2) => BJ op.length src ((a : Int) + 1) (farL st (quL st a)) (quL st a) (totB st) a w) (fun w => L_impl_spread_L15 w.1 w.2 m op 0 op.length op.length ((a + 1 : Nat) : Int)) ?_ ?_ st h4 _ ?_
      · intro w hw r hr
        apply e_impl_spread_L18
        unfold P_impl_spread_L18
        rw [if_neg (by simp), wrap_id (n := (a : Int) + 1) (by omega) (by omega)]
        exact hr
      · intro j k w hk hj hw
        refine ⟨hw.visit rfl h0 h1 h2 (by omega) k, ?_⟩
        intro r hr
        apply e_impl_spread_L18
        unfold P_impl_spread_L18
        have hwl : w.2.length ≤ totB w := by unfold totB; omega
        rw [hw.tot] at hwl
        obtain ⟨k0, k1⟩ := ok.nb (mem_of_get hk)
        obtain ⟨o, ho⟩ := getI_ex (l := op) k0 k1
        rw [visit_get ho] at hr
        have hnb : (nbL m (quL st a)).length ≤ 6 := by unfold nbL; exact List.length_filter_le _ _
        rw [if_pos (by simpa using hj), ixA_at sl_cI rfl hk, ixA_get sl_cB _ _ ho, wrap_id (n := (j : Int) + 1) (by omega) (by omega)]
        cases o with
        | false => rw [if_neg (by simp)] at hr ⊢; exact hr
        | true =>
          rw [if_pos rfl] at hr ⊢
          obtain ⟨q, e, hx, hq2⟩ := getI_some (far_get hw.bi.len k0 k1)
          rw [oxA_at rt_cI (j := q) e (by omega)]
          refine (ld_at (E := tI) rfl rfl ok_cI (fun _ => rfl) (l := w.1) rfl rfl hx _).trans ?_
          by_cases hneg : farL w k < 0
          · rw [if_pos hneg] at hr
            rw [if_pos (by simpa using hneg), oxA_at rt_cI rfl hw.at_.1]
            have hq' : w.2[a]? = some (quL st a) := by rw [← hw.at_.2]; unfold quL; rw [List.getD_eq_getElem?_getD, List.getElem?_eq_getElem hw.at_.1]; rfl
            refine (ld_at (E := tI) rfl rfl ok_cI (fun _ => rfl) (l := w.2) rfl rfl hq' _).trans ?_
            obtain ⟨p, ep, hxp, _⟩ := getI_some (far_get hw.bi.len h0 h1)
            rw [oxA_at rt_cI (j := p) ep (by omega)]
            refine (ld_at (E := tI) rfl rfl ok_cI (fun _ => rfl) (l := w.1) rfl rfl hxp _).trans ?_
            rw [hw.far, wrap_id (n := farL st (quL st a) + 1) (by omega) (by omega), oxA_at rt_cI (j := q) e (by omega), stF (f := 0) (off := q * 1) ok_cI rfl rfl hx rfl (by omega) rfl (y' := farL st (quL st a) + 1) rfl,
              apR_eq rt_cI (l := w.2) (xs := [k]) rfl (Src.row (n := 1) ok_cI rfl rfl) rfl rfl (by simp; omega) (by simp; omega) rfl]
            rw [e, Int.toNat_natCast] at hr
            rw [e]
            exact hr
          · rw [if_neg hneg] at hr
            rw [if_neg (by simpa using hneg)]
            exact hr
      · rw [foldN_const]
        exact nx
    · rw [if_neg (by simpa using ha), if_neg ha, ← hb.len, give_at ok_cI rfl]
      rfl
theorem l_impl_spread_L8 {m : DMap} {op : List Bool} {src : List Int} (ok : SpreadOk m op src) : L_impl_spread_L8 (List.replicate op.length (-1)) [] m op 0 op.length op.length src src.length 0 = some (en_impl_spread (spreadL m op src)) := by
  have hn := ok.l
  have hq := ok.q
  have ht := totB_le op src
  have fin := l_impl_spread_L15 ok (totB (seedsL op src)) 0 (seedsL op src) (by omega) (by omega) (seeds_ok (op := op) (n := op.length) (src := src) rfl src _ (fun _ h => h) (BI.init op.length src)).1
  refine fold_loop (fun j (st : St2) => L_impl_spread_L8 st.1 st.2 m op 0 op.length op.length src src.length j) src (fun _ w k => seedB op w k) (fun j w => w.1.length = op.length ∧ w.2.length ≤ j)
    (fun w => L_impl_spread_L15 w.1 w.2 m op 0 op.length op.length 0) ?_ ?_ (List.replicate op.length (-1), []) ⟨by simp, by simp⟩ _ ?_
  · intro w hw r hr
    apply e_impl_spread_L8
    unfold P_impl_spread_L8
    rw [if_neg (by simp)]
    exact hr
  · intro j k w hk hj hw
    obtain ⟨k0, k1⟩ := ok.s k (mem_of_get hk)
    obtain ⟨o, ho⟩ := getI_ex (l := op) k0 k1
    refine ⟨?_, ?_⟩
    · rw [seed_get ho]
      split
      · simp; omega
      · exact ⟨hw.1, by omega⟩
    · intro r hr
      apply e_impl_spread_L8
      unfold P_impl_spread_L8
      rw [seed_get ho] at hr
      rw [if_pos (by simpa using hj), ixA_at sl_cI rfl hk, ixA_get sl_cB _ _ ho, wrap_id (n := (j : Int) + 1) (by omega) (by omega)]
      cases o with
      | false => rw [if_neg (by simp)] at hr ⊢; exact hr
      | true =>
        rw [if_pos rfl] at hr ⊢
        obtain ⟨q, e, hx, hq2⟩ := getI_some (far_get (st := w) hw.1 k0 k1)
        rw [oxA_at rt_cI (j := q) e (by omega), stF (f := 0) (off := q * 1) ok_cI rfl rfl hx rfl (by omega) rfl (y' := 0) rfl, apR_eq rt_cI (l := w.2) (xs := [k]) rfl (Src.row (n := 1) ok_cI rfl rfl) rfl rfl (by simp; omega) (by simp; omega) rfl]
        rw [e, Int.toNat_natCast] at hr
        rw [e]
        exact hr
  · rw [foldN_const]
    exact fin
theorem l_impl_spread_L3 {m : DMap} {op : List Bool} {src : List Int} (ok : SpreadOk m op src) : ∀ (k i : Nat), i + k = op.length → L_impl_spread_L3 (List.replicate i (-1) ++ List.replicate k 0) [] m op src 0 op.length op.length op.length i = some (en_impl_spread (spreadL m op src)) := by
  have hn := ok.l
  intro k
  induction k with
  | zero =>
    intro i hi
    apply e_impl_spread_L3
    unfold P_impl_spread_L3
    rw [if_neg (by simp; omega), List.replicate_zero, List.append_nil, show i = op.length by omega]
    exact l_impl_spread_L8 ok
  | succ k ih =>
    intro i hi
    apply e_impl_spread_L3
    unfold P_impl_spread_L3
    rw [if_pos (by simp; omega), oxA_at rt_cI rfl (by omega), stF (f := 0) (off := i * 1) ok_cI rfl rfl (fill_get (-1) 0 i k) rfl (by omega) rfl (y' := -1) rfl, fill_set, wrap_id (n := (i : Int) + 1) (by omega) (by omega)]
    exact ih (i + 1) (by omega)
theorem c_impl_spread (m : DMap) (op : List Bool) (src : List Int) (ok : SpreadOk m op src) : A_impl_spread m op src = some (en_impl_spread (spreadL m op src)) := by
  apply e_impl_spread
  unfold P_impl_spread
  have hn := ok.l
  rw [mkA_z rt_cI (z := 0) (by kernel_rfl) rfl (by omega) (by omega) (by omega)]
  have := l_impl_spread_L3 ok op.length 0 (by omega)
  simpa using this
theorem l_spec_jFar_L16 {m : DMap} {op : List Bool} {src : List Int} (ok : SpreadOk m op src) : ∀ (f a : Nat) (st : St2), totB st ≤ a + f → a + f ≤ 500 → BI op.length src a st →
    L_spec_jFar_L16 st.1 st.2 m op 0 op.length op.length a = some (en_spec_jFar (runB m op f a st).1) := by
  intro f
  induction f with
  | zero =>
    intro a st ht hf hb
    apply e_spec_jFar_L16
    unfold P_spec_jFar_L16
    have : st.2.length ≤ totB st := by unfold totB; omega
    rw [if_neg (by simp; omega), ← hb.len, give_at ok_cI rfl]
    rfl
  | succ f ih =>
    intro a st ht hf hb
    apply e_spec_jFar_L16
    unfold P_spec_jFar_L16 runB
    by_cases ha : a < st.2.length
    · obtain ⟨h0, h1, h2, h3, h4⟩ := hb.start ha
      have hl := ok.l
      rw [if_pos (by simpa using ha), if_pos ha]
      have hst := hb.step (m := m) rfl ha
      have nx := ih (a + 1) (stepB m op a st) (by omega) (by omega) hst.1
      refine fold_loop (fun j (w : St2) => L_spec_jFar_L19 w.1 w.2 m op 0 op.length op.length a j) dl (fun _ w d => if 0 ≤ nextL m (quL st a) d then visitB op (farL st (quL st a)) w (nextL m (quL st a) d) else w)
        (fun (_ : Nat) (w : St2) => BJ op.length src ((a : Int) + 1) (farL st (quL st a)) (quL st a) (totB st) a w) (fun w => L_spec_jFar_L16 w.1 w.2 m op 0 op.length op.length ((a + 1 : Nat) : Int)) ?_ ?_ st h4 _ ?_
      · intro w hw r hr
        apply e_spec_jFar_L19
        unfold P_spec_jFar_L19
        rw [if_neg (by simp [dl]), wrap_id (n := (a : Int) + 1) (by omega) (by omega)]
        exact hr
      · intro j d w hk hj hw
        obtain ⟨rfl, h6⟩ := dl_get hk
        refine ⟨?_, ?_⟩
        · split
          · exact hw.visit rfl h0 h1 h2 (by omega) _
          · exact hw
        intro r hr
        apply e_spec_jFar_L19
        unfold P_spec_jFar_L19
        have hwl : w.2.length ≤ totB w := by unfold totB; omega
        rw [hw.tot] at hwl
        have hq' : w.2[a]? = some (quL st a) := by rw [← hw.at_.2]; unfold quL; rw [List.getD_eq_getElem?_getD, List.getElem?_eq_getElem hw.at_.1]; rfl
        rw [if_pos (by simp; omega), oxA_at rt_cI rfl hw.at_.1]
        refine (ld_at (E := tI) rfl rfl ok_cI (fun _ => rfl) (l := w.2) rfl rfl hq' _).trans ?_
        rw [k_spec_mNext _ _ _ (c_spec_mNext _ _ _ ok.b (by unfold sm; omega) (by omega) (by omega)), wrap_id (n := (j : Int) + 1) (by omega) (by omega)]
        by_cases hk0 : 0 ≤ nextL m (quL st a) j
        · have k1 : nextL m (quL st a) j < op.length := by have := nextL_area ok.w.1 ok.w.2 (quL st a) j; have := ok.n; omega
          rw [if_pos hk0] at hr
          rw [if_pos (by simpa using hk0)]
          generalize nextL m (quL st a) j = k at hr hk0 k1
          obtain ⟨o, ho⟩ := getI_ex (l := op) hk0 k1
          rw [visit_get ho] at hr
          rw [ixA_get sl_cB _ _ ho]
          cases o with
          | false => rw [if_neg (by simp)] at hr ⊢; exact hr
          | true =>
            rw [if_pos rfl] at hr ⊢
            obtain ⟨q, e, hx, hq2⟩ := getI_some (far_get hw.bi.len hk0 k1)
            rw [oxA_at rt_cI (j := q) e (by omega)]
            refine (ld_at (E := tI) rfl rfl ok_cI (fun _ => rfl) (l := w.1) rfl rfl hx _).trans ?_
            by_cases hneg : farL w k < 0
            · rw [if_pos hneg] at hr
              rw [if_pos (by simpa using hneg), oxA_at rt_cI rfl hw.at_.1]
              refine (ld_at (E := tI) rfl rfl ok_cI (fun _ => rfl) (l := w.2) rfl rfl hq' _).trans ?_
              obtain ⟨p, ep, hxp, _⟩ := getI_some (far_get hw.bi.len h0 h1)
              rw [oxA_at rt_cI (j := p) ep (by omega)]
              refine (ld_at (E := tI) rfl rfl ok_cI (fun _ => rfl) (l := w.1) rfl rfl hxp _).trans ?_
              rw [hw.far, wrap_id (n := farL st (quL st a) + 1) (by omega) (by omega), oxA_at rt_cI (j := q) e (by omega), stF (f := 0) (off := q * 1) ok_cI rfl rfl hx rfl (by omega) rfl (y' := farL st (quL st a) + 1) rfl,
                apR_eq rt_cI (l := w.2) (xs := [k]) rfl (Src.row (n := 1) ok_cI rfl rfl) rfl rfl (by simp; omega) (by simp; omega) rfl]
              rw [e, Int.toNat_natCast] at hr
              rw [e]
              exact hr
            · rw [if_neg hneg] at hr
              rw [if_neg (by simpa using hneg)]
              exact hr
        · rw [if_neg hk0] at hr
          rw [if_neg (by simpa using hk0)]
          exact hr
      · rw [foldN_const, fold_nb]
        exact nx
    · rw [if_neg (by simpa using ha), if_neg ha, ← hb.len, give_at ok_cI rfl]
      rfl
theorem l_spec_jFar_L9 {m : DMap} {op : List Bool} {src : List Int} (ok : SpreadOk m op src) : L_spec_jFar_L9 (List.replicate op.length (-1)) [] m op 0 op.length op.length src src.length 0 = some (en_spec_jFar (spreadL m op src)) := by
  have hn := ok.l
  have hq := ok.q
  have ht := totB_le op src
  have fin := l_spec_jFar_L16 ok (totB (seedsL op src)) 0 (seedsL op src) (by omega) (by omega) (seeds_ok (op := op) (n := op.length) (src := src) rfl src _ (fun _ h => h) (BI.init op.length src)).1
  refine fold_loop (fun j (st : St2) => L_spec_jFar_L9 st.1 st.2 m op 0 op.length op.length src src.length j) src (fun _ w k => seedB op w k) (fun j w => w.1.length = op.length ∧ w.2.length ≤ j)
    (fun w => L_spec_jFar_L16 w.1 w.2 m op 0 op.length op.length 0) ?_ ?_ (List.replicate op.length (-1), []) ⟨by simp, by simp⟩ _ ?_
  · intro w hw r hr
    apply e_spec_jFar_L9
    unfold P_spec_jFar_L9
    rw [if_neg (by simp)]
    exact hr
  · intro j k w hk hj hw
    obtain ⟨k0, k1⟩ := ok.s k (mem_of_get hk)
    obtain ⟨o, ho⟩ := getI_ex (l := op) k0 k1
    refine ⟨?_, ?_⟩
    · rw [seed_get ho]
      split
      · simp; omega
      · exact ⟨hw.1, by omega⟩
    · intro r hr
      apply e_spec_jFar_L9
      unfold P_spec_jFar_L9
      rw [seed_get ho] at hr
      rw [if_pos (by simpa using hj), ixA_at sl_cI rfl hk, ixA_get sl_cB _ _ ho, wrap_id (n := (j : Int) + 1) (by omega) (by omega)]
      cases o with
      | false => rw [if_neg (by simp)] at hr ⊢; exact hr
      | true =>
        rw [if_pos rfl] at hr ⊢
        obtain ⟨q, e, hx, hq2⟩ := getI_some (far_get (st := w) hw.1 k0 k1)
        rw [oxA_at rt_cI (j := q) e (by omega), stF (f := 0) (off := q * 1) ok_cI rfl rfl hx rfl (by omega) rfl (y' := 0) rfl, apR_eq rt_cI (l := w.2) (xs := [k]) rfl (Src.row (n := 1) ok_cI rfl rfl) rfl rfl (by simp; omega) (by simp; omega) rfl]
        rw [e, Int.toNat_natCast] at hr
        rw [e]
        exact hr
  · rw [foldN_const]
    exact fin
theorem l_spec_jFar_L3 {m : DMap} {op : List Bool} {src : List Int} (ok : SpreadOk m op src) : ∀ (k i : Nat), i + k = op.length → L_spec_jFar_L3 (List.replicate i (-1) ++ List.replicate k 0) m op src 0 op.length op.length op.length i = some (en_spec_jFar (spreadL m op src)) := by
  have hn := ok.l
  intro k
  induction k with
  | zero =>
    intro i hi
    apply e_spec_jFar_L3
    unfold P_spec_jFar_L3
    rw [if_neg (by simp; omega), List.replicate_zero, List.append_nil, show i = op.length by omega]
    exact l_spec_jFar_L9 ok
  | succ k ih =>
    intro i hi
    apply e_spec_jFar_L3
    unfold P_spec_jFar_L3
    rw [if_pos (by simp; omega), oxA_at rt_cI rfl (by omega), stF (f := 0) (off := i * 1) ok_cI rfl rfl (fill_get (-1) 0 i k) rfl (by omega) rfl (y' := -1) rfl, fill_set, wrap_id (n := (i : Int) + 1) (by omega) (by omega)]
    exact ih (i + 1) (by omega)
theorem c_spec_jFar (m : DMap) (op : List Bool) (src : List Int) (ok : SpreadOk m op src) : A_spec_jFar m op src = some (en_spec_jFar (spreadL m op src)) := by
  apply e_spec_jFar
  unfold P_spec_jFar
  have hn := ok.l
  rw [mkA_z rt_cI (z := 0) (by kernel_rfl) rfl (by omega) (by omega) (by omega)]
  have := l_spec_jFar_L3 ok op.length 0 (by omega)
  simpa using this
theorem c_impl_blockedFor (b : DBoard) (s : DState) (side i : Int) (g : StateG b s) (hs : side = 0 ∨ side = 1) (h0 : 0 ≤ i) (h1 : i < b.Map.Width * b.Map.Height) : A_impl_blockedFor b s side i = some (en_impl_blockedFor (blockedL b s.Units side i)) := by
  apply e_impl_blockedFor
  unfold P_impl_blockedFor blockedL
  have hl := g.len
  rw [k_impl_ownerOf _ _ (c_impl_ownerOf _ _ (by omega)), wrap_id (n := 1 - side) (by omega) (by omega), k_impl_inZone _ _ _ _ (c_impl_inZone _ _ _ _ g h0 h1)]
  by_cases ho : ownerL s.Units i = 1 - side
  · rw [if_pos (by simpa using ho)]; simp [ho, en_impl_blockedFor]
  · rw [if_neg (by simpa using ho)]
    by_cases h2 : ownerL s.Units i = side
    · rw [if_neg (by simp [h2])]; simp [h2, en_impl_blockedFor]; omega
    · have e1 : (ownerL s.Units i == 1 - side) = false := by simpa using ho
      have e2 : (ownerL s.Units i != side) = true := by simpa using h2
      rw [if_pos e2, e1, e2]; simp [en_impl_blockedFor]
theorem c_spec_jBlocked (b : DBoard) (s : DState) (side i : Int) (g : StateG b s) (hs : side = 0 ∨ side = 1) (h0 : 0 ≤ i) (h1 : i < b.Map.Width * b.Map.Height) : A_spec_jBlocked b s side i = some (en_spec_jBlocked (blockedL b s.Units side i)) := by
  apply e_spec_jBlocked
  unfold P_spec_jBlocked blockedL
  have hl := g.len
  have hc := owner_cases g i
  rw [k_spec_sOwner _ _ (c_spec_sOwner _ _ (by omega)), wrap_id (n := 1 - side) (by omega) (by omega), k_spec_zIn _ _ _ _ (c_spec_zIn _ _ _ _ g h0 h1)]
  by_cases ho : ownerL s.Units i = 1 - side
  · rw [if_pos (by simpa using ho)]; simp [ho, en_spec_jBlocked]
  · rw [if_neg (by simpa using ho)]
    by_cases h2 : ownerL s.Units i = side
    · rw [if_neg (by simp; omega)]; simp [h2, en_spec_jBlocked]; omega
    · have e1 : (ownerL s.Units i == 1 - side) = false := by simpa using ho
      have e2 : (ownerL s.Units i != side) = true := by simpa using h2
      rw [if_pos (by simp; omega), e1, e2]; simp [en_spec_jBlocked]
theorem area_b {b : DBoard} (g : BoardG b) : (b.Map.Terrain.length : Int) = b.Map.Width * b.Map.Height ∧ b.Map.Terrain.length ≤ 100 := by
  have := Int.mul_le_mul g.w1 g.h1 (by have := g.h0; omega) (by omega)
  have := g.area
  exact ⟨g.area, by omega⟩
theorem range_snoc {α : Type} (f : Nat → α) (n : Nat) : (List.range (n + 1)).map f = (List.range n).map f ++ [f n] := by rw [List.range_succ, List.map_append]; rfl
theorem gvc_at {α γ : Type} {σ : Store} {c : α → List AV} {e : Nat} (h : COk c e) {id : Id} {fr : Bool} {l : List α} (hb : σ.get? id = some (rowB fr false e c l)) (k : List α → Option γ) : cast (fun a => slc c a) (giveUpV σ (.own id none 0 l.length l.length)) k = k l := cast_of (slc_inj h) (giveV_at h hb) k
theorem c_impl_openFor (b : DBoard) (s : DState) (side kind : Int) (g : StateG b s) (hs : side = 0 ∨ side = 1) (k0 : 0 ≤ kind) (k1 : kind < b.Rules.Kinds.length) : A_impl_openFor b s side kind = some (en_impl_openFor (openL b s.Units side kind)) := by
  apply e_impl_openFor
  unfold P_impl_openFor
  have ha := area_b g.bg
  refine pre_loop (fun i (acc : List Bool) => L_impl_openFor_L3 acc b s side kind b.Map.Terrain.length i) (fun pre => (List.range pre.length).map fun (i : Nat) => openAt b s.Units side kind i) b.Map.Terrain (fun _ _ => some (en_impl_openFor (openL b s.Units side kind))) ?_ (fun pre x post h ih => ?_) _ rfl
  · intro r hr
    apply e_impl_openFor_L3
    unfold P_impl_openFor_L3
    rw [if_neg (by simp)]
    exact hr
  · intro r hr
    apply e_impl_openFor_L3
    unfold P_impl_openFor_L3
    have hlt := mid_lt h
    have ih := ih r hr
    rw [List.length_append, List.length_cons, List.length_nil, range_snoc] at ih
    obtain ⟨hc, hc0, _⟩ := g.bg.cost_ex k0 k1 (i := pre.length) (by omega) (by omega)
    rw [if_pos (by simpa using hlt), k_impl_enterCost _ _ _ (c_impl_enterCost _ _ _ hc), wrap_id (n := (pre.length : Int) + 1) (by omega) (by omega), k_impl_blockedFor _ _ _ _ (c_impl_blockedFor _ _ _ _ g hs (by omega) (by omega))]
    by_cases hz : costL b kind pre.length = 0
    · rw [if_neg (by simp [hz]), apR_eq rt_cB (xs := [false]) rfl (Src.row (n := 1) ok_cB rfl rfl) rfl rfl (by simp; omega) (by simp; omega) rfl]
      have e : openAt b s.Units side kind (pre.length : Int) = false := by unfold openAt; simp [hz]
      rw [e] at ih
      exact ih
    · rw [if_pos (by simpa using hz), apR_eq rt_cB (xs := [!blockedL b s.Units side pre.length]) rfl (Src.row (n := 1) ok_cB rfl rfl) rfl rfl (by simp; omega) (by simp; omega) rfl]
      have e : openAt b s.Units side kind (pre.length : Int) = !blockedL b s.Units side pre.length := by unfold openAt; simp [hz]
      rw [e] at ih
      exact ih
theorem mid_set {α : Type} (A : List α) (x z : α) (k : Nat) : (A ++ List.replicate (k + 1) z).set A.length x = A ++ [x] ++ List.replicate k z := by
  rw [List.set_append_right _ _ (by simp), Nat.sub_self, List.replicate_succ, List.set_cons_zero, List.append_assoc]
  rfl
theorem mid_at {α : Type} (A : List α) (z : α) (k : Nat) : (A ++ List.replicate (k + 1) z)[A.length]? = some z := by
  rw [List.getElem?_append_right (by simp), Nat.sub_self, List.replicate_succ]
  rfl
theorem l_spec_jOpen_L3 (b : DBoard) (s : DState) (side kind : Int) (g : StateG b s) (hs : side = 0 ∨ side = 1) (k0 : 0 ≤ kind) (k1 : kind < b.Rules.Kinds.length) : ∀ (k i : Nat), i + k = b.Map.Terrain.length →
    L_spec_jOpen_L3 ((List.range i).map (fun (i : Nat) => openAt b s.Units side kind i) ++ List.replicate k false) b s side kind 0 b.Map.Terrain.length b.Map.Terrain.length b.Map.Terrain.length i = some (en_spec_jOpen (openL b s.Units side kind)) := by
  have ha := area_b g.bg
  intro k
  induction k with
  | zero =>
    intro i hi
    apply e_spec_jOpen_L3
    unfold P_spec_jOpen_L3
    have hi : i = b.Map.Terrain.length := by omega
    subst hi
    have hl : b.Map.Terrain.length = ((List.range b.Map.Terrain.length).map (fun (i : Nat) => openAt b s.Units side kind i)).length := by simp
    rw [if_neg (by simp), List.replicate_zero, List.append_nil]
    rw [show (giveUpT _ (AV.own _ none 0 b.Map.Terrain.length b.Map.Terrain.length)) = some (slc cB ((List.range b.Map.Terrain.length).map (fun (i : Nat) => openAt b s.Units side kind i))) from by
      have := gvOwn (σ := [(Id.h 4 0, some { arr := false, fr := true, nest := false, esz := 0, cells := cBoard b }), (Id.h 5 0, some { arr := false, fr := true, nest := false, esz := 0, cells := cState s }), (Id.h 9 0, some (rowB true false 1 cB ((List.range b.Map.Terrain.length).map (fun (i : Nat) => openAt b s.Units side kind i))))]) ok_cB (id := Id.h 9 0) (fr := true) rfl
      rw [← hl] at this
      exact this]
    rw [cast_of (slc_inj ok_cB) rfl]
    rfl
  | succ k ih =>
    intro i hi
    apply e_spec_jOpen_L3
    unfold P_spec_jOpen_L3
    obtain ⟨hc, hc0, _⟩ := g.bg.cost_ex k0 k1 (i := i) (by omega) (by omega)
    have hl : ((List.range i).map (fun (i : Nat) => openAt b s.Units side kind i)).length = i := by simp
    have hm := mid_at ((List.range i).map (fun (i : Nat) => openAt b s.Units side kind i)) false k
    have hst : ∀ x, ((List.range i).map (fun (i : Nat) => openAt b s.Units side kind i) ++ List.replicate (k + 1) false).set i x = (List.range i).map (fun (i : Nat) => openAt b s.Units side kind i) ++ [x] ++ List.replicate k false := fun x => by
      have := mid_set ((List.range i).map (fun (i : Nat) => openAt b s.Units side kind i)) x false k
      rw [hl] at this
      exact this
    rw [hl] at hm
    have ih := ih (i + 1) (by omega)
    rw [range_snoc] at ih
    rw [if_pos (by simp; omega), k_spec_bCost _ _ _ (c_spec_bCost _ _ _ hc), wrap_id (n := (i : Int) + 1) (by omega) (by omega), k_spec_jBlocked _ _ _ _ (c_spec_jBlocked _ _ _ _ g hs (by omega) (by omega))]
    by_cases hz : costL b kind i = 0
    · rw [if_neg (by simp [hz]), oxA_at rt_cB rfl (by omega), stF (f := 0) (off := i * 1) ok_cB rfl rfl hm rfl (by omega) rfl (y' := false) rfl, hst]
      have e : openAt b s.Units side kind (i : Int) = false := by unfold openAt; simp [hz]
      rw [e] at ih
      exact ih
    · rw [if_pos (by simp; omega), oxA_at rt_cB rfl (by omega), stF (f := 0) (off := i * 1) ok_cB rfl rfl hm rfl (by omega) rfl (y' := !blockedL b s.Units side i) rfl, hst]
      have e : openAt b s.Units side kind (i : Int) = !blockedL b s.Units side i := by unfold openAt; simp [hz]
      rw [e] at ih
      exact ih
theorem c_spec_jOpen (b : DBoard) (s : DState) (side kind : Int) (g : StateG b s) (hs : side = 0 ∨ side = 1) (k0 : 0 ≤ kind) (k1 : kind < b.Rules.Kinds.length) : A_spec_jOpen b s side kind = some (en_spec_jOpen (openL b s.Units side kind)) := by
  apply e_spec_jOpen
  unfold P_spec_jOpen
  have ha := area_b g.bg
  rw [k_spec_mSize _ (c_spec_mSize _), ← ha.1, wrap_id (by omega) (by omega), mkA_z rt_cB (z := false) (by kernel_rfl) rfl (by omega) (by omega) (by omega)]
  have := l_spec_jOpen_L3 b s side kind g hs k0 k1 b.Map.Terrain.length 0 (by omega)
  simpa using this
def srcB (b : DBoard) (l : List Int) : Bool := decide ((l.length : Int) ≤ 6) && (risingB l && l.all (inB 0 ((b.Map.Terrain.length : Int) - 1)))
theorem c_impl_areSources_1 (b : DBoard) (k : Int) (hn : BoardN b) : A_impl_areSources_1 b k = some (en_impl_areSources_1 (!inB 0 ((b.Map.Terrain.length : Int) - 1) k, b)) := by
  apply e_impl_areSources_1
  unfold P_impl_areSources_1
  have := hn.m.t
  rw [k_impl_sizeOf _ (c_impl_sizeOf _), k_impl_isIndex _ _ (c_impl_isIndex _ _ (by omega) (by omega))]
  rfl
theorem c_slices_IndexFunc_int_of_impl_areSources_1 (b : DBoard) (l : List Int) (hn : BoardN b) (hl : l.length < 1000000000000) : A_slices_IndexFunc_int_of_impl_areSources_1 b l = some (en_slices_IndexFunc_int_of_impl_areSources_1 (findI (fun k => !inB 0 ((b.Map.Terrain.length : Int) - 1) k) l, b)) := by
  apply e_slices_IndexFunc_int_of_impl_areSources_1
  unfold P_slices_IndexFunc_int_of_impl_areSources_1
  refine idx_loop (fun i => L_slices_IndexFunc_int_of_impl_areSources_1_L2 b l l.length i) l (fun k => !inB 0 ((b.Map.Terrain.length : Int) - 1) k) (fun i => some (en_slices_IndexFunc_int_of_impl_areSources_1 (i, b))) ?_ (fun i x hx hi => ?_) _ rfl
  · intro _ h; apply e_slices_IndexFunc_int_of_impl_areSources_1_L2; unfold P_slices_IndexFunc_int_of_impl_areSources_1_L2
    rw [← h]; simp [en_slices_IndexFunc_int_of_impl_areSources_1]
  · intro _ h; apply e_slices_IndexFunc_int_of_impl_areSources_1_L2; unfold P_slices_IndexFunc_int_of_impl_areSources_1_L2
    rw [if_pos (by simpa using hi), ixA_at sl_cI rfl hx, k_impl_areSources_1 _ _ (c_impl_areSources_1 _ _ hn), wrap_id (by omega) (by omega)]
    exact h
theorem c_impl_areSources (b : DBoard) (l : List Int) (hn : BoardN b) : A_impl_areSources b l = some (en_impl_areSources (srcB b l)) := by
  apply e_impl_areSources
  unfold P_impl_areSources srcB
  by_cases hq : (l.length : Int) ≤ 6
  · rw [if_pos (by simpa using hq), k_impl_increasing _ (c_impl_increasing _ (by omega))]
    have hc : A_slices_ContainsFunc_int_of_impl_areSources_1 b l = some (en_slices_ContainsFunc_int_of_impl_areSources_1 (l.any (fun k => !inB 0 ((b.Map.Terrain.length : Int) - 1) k), b)) := by
      apply e_slices_ContainsFunc_int_of_impl_areSources_1
      unfold P_slices_ContainsFunc_int_of_impl_areSources_1
      rw [k_slices_IndexFunc_int_of_impl_areSources_1 _ _ (c_slices_IndexFunc_int_of_impl_areSources_1 _ _ hn (by omega)), findI_any]
      rfl
    rw [k_slices_ContainsFunc_int_of_impl_areSources_1 _ _ hc]
    cases risingB l <;> simp [en_impl_areSources, List.all_eq_not_any_not, hq]
  · rw [if_neg (by simpa using hq)]
    simp [en_impl_areSources, hq]
theorem c_spec_jSources (b : DBoard) (l : List Int) (g : BoardG b) : A_spec_jSources b l = some (en_spec_jSources (srcB b l)) := by
  apply e_spec_jSources
  unfold P_spec_jSources srcB
  have ha := area_b g
  by_cases hq : (l.length : Int) ≤ 6
  · rw [if_pos (by simpa using hq), k_spec_mSize _ (c_spec_mSize _), ← ha.1, wrap_id (n := (b.Map.Terrain.length : Int)) (by omega) (by omega), wrap_id (by omega) (by omega), k_spec_l1Rising _ _ _ (c_spec_l1Rising _ _ _ (by omega))]
    simp [en_spec_jSources, hq, Bool.and_comm]
  · rw [if_neg (by simpa using hq)]
    simp [en_spec_jSources, hq]
theorem src_ok {b : DBoard} {l : List Int} (g : BoardG b) (h : srcB b l = true) (us : List DUnit) (side kind : Int) : SpreadOk b.Map (openL b us side kind) l := by
  have ha := area_b g
  unfold srcB at h
  simp only [Bool.and_eq_true, decide_eq_true_eq, List.all_eq_true, inB_iff] at h
  have hl : (openL b us side kind).length = b.Map.Terrain.length := by unfold openL; simp
  exact ⟨by rw [hl]; exact ha.1, ⟨g.w0, g.h0⟩, by omega, fun i hi => by have := h.2.2 i hi; omega, by omega, g.s.b⟩
/-! units in supply -/
theorem way_get {b : DBoard} {us : List DUnit} {src : List Int} {u : DUnit} (g : BoardG b) (h : srcB b src = true) (h0 : 0 ≤ u.At) (h1 : u.At < b.Map.Width * b.Map.Height) :
    getI (spreadL b.Map (openL b us u.Side u.Kind) src) u.At = some ((getI (spreadL b.Map (openL b us u.Side u.Kind) src) u.At).getD 0) := by
  have ha := area_b g
  have hl := spread_len b.Map (openL b us u.Side u.Kind) src
  have ho : (openL b us u.Side u.Kind).length = b.Map.Terrain.length := by unfold openL; simp
  obtain ⟨x, hx⟩ := getI_ex (l := spreadL b.Map (openL b us u.Side u.Kind) src) h0 (by omega)
  rw [hx]
  rfl
theorem c_impl_wayOf (b : DBoard) (s : DState) (u : DUnit) (src : List Int) (g : StateG b s) (hu : u ∈ s.Units) (hs : srcB b src = true) : A_impl_wayOf b s u src = some (en_impl_wayOf (wayL b s.Units src u)) := by
  apply e_impl_wayOf
  unfold P_impl_wayOf
  have hk := unit_kind (g.u u hu)
  rw [k_impl_openFor _ _ _ _ (c_impl_openFor _ _ _ _ g (unit_side (g.u u hu)) hk.1 hk.2), gvc_at ok_cB rfl]
  have hw : A_impl_supplyWay b u (openL b s.Units u.Side u.Kind) src = some (en_impl_supplyWay (wayL b s.Units src u)) := by
    apply e_impl_supplyWay
    unfold P_impl_supplyWay wayL
    by_cases h0 : u.At < 0
    · rw [if_pos (by simpa using h0), if_pos h0]; rfl
    · have hp := unit_place (g.u u hu) (by omega)
      rw [if_neg (by simpa using h0), if_neg h0, k_impl_spread _ _ _ (c_impl_spread _ _ _ (src_ok g.bg hs s.Units u.Side u.Kind)), ixA_get sl_cI _ _ (way_get g.bg hs (by omega) hp.1)]
      by_cases h1 : b.Rules.Supply < (getI (spreadL b.Map (openL b s.Units u.Side u.Kind) src) u.At).getD 0
      · rw [if_pos (by simpa using h1), if_pos h1]; rfl
      · rw [if_neg (by simpa using h1), if_neg h1]; rfl
  rw [k_impl_supplyWay _ _ _ _ hw]
  rfl
theorem c_spec_jIn (b : DBoard) (s : DState) (k : Int) (src : List Int) (g : StateG b s) {u : DUnit} (hk : getI s.Units k = some u) (hu : u ∈ s.Units) (hs : srcB b src = true) : A_spec_jIn b s k src = some (en_spec_jIn (decide (0 ≤ wayL b s.Units src u))) := by
  apply e_spec_jIn
  unfold P_spec_jIn wayL
  have hkd := unit_kind (g.u u hu)
  rw [ixA_get sl_cUnit _ _ hk]
  by_cases h0 : u.At < 0
  · rw [if_pos (by simpa using h0), if_pos h0]; rfl
  · have hp := unit_place (g.u u hu) (by omega)
    have hj : A_spec_jUnit b s k src = some (en_spec_jUnit (openL b s.Units u.Side u.Kind, spreadL b.Map (openL b s.Units u.Side u.Kind) src)) := by
      apply e_spec_jUnit
      unfold P_spec_jUnit
      rw [ixA_get sl_cUnit _ _ hk, k_spec_jOpen _ _ _ _ (c_spec_jOpen _ _ _ _ g (unit_side (g.u u hu)) hkd.1 hkd.2), k_spec_jFar _ _ _ (c_spec_jFar _ _ _ (src_ok g.bg hs s.Units u.Side u.Kind))]
      rfl
    rw [if_neg (by simpa using h0), if_neg h0, k_spec_jUnit _ _ _ _ hj, ixA_get sl_cI _ _ (way_get g.bg hs (by omega) hp.1), kk_spec_l1In]
    generalize (getI (spreadL b.Map (openL b s.Units u.Side u.Kind) src) u.At).getD 0 = d
    have e : inB 0 b.Rules.Supply d = decide (0 ≤ if b.Rules.Supply < d then -1 else d) := by
      rw [Bool.eq_iff_iff, inB_iff, decide_eq_true_eq]
      split <;> omega
    rw [e]
    rfl
theorem c_impl_InSupply (b : DBoard) (s : DState) (k : Int) (src : List Int) (hn : BoardN b) (hs : s.Units.length < 1000000000000) (hg : gameB b s = true) (hq : srcB b src = true) {u : DUnit} (hu : getI s.Units k = some u) (hm : u ∈ s.Units) : A_impl_InSupply b s k src = some (en_impl_InSupply (decide (0 ≤ wayL b s.Units src u), true)) := by
  apply e_impl_InSupply
  unfold P_impl_InSupply
  have hi : inB 0 ((s.Units.length : Int) - 1) k = true := by
    obtain ⟨n, e, _, hl⟩ := getI_some hu
    rw [inB_iff]
    omega
  have h1 : A_impl_isSupply b s k src = some (en_impl_isSupply true) := by
    apply e_impl_isSupply
    unfold P_impl_isSupply
    rw [k_impl_hasUnit _ _ _ (c_impl_hasUnit _ _ _ hn hs), hg, hi, if_pos (by rfl), k_impl_areSources _ _ (c_impl_areSources _ _ hn), hq]
    rfl
  rw [k_impl_isSupply _ _ _ _ h1, if_neg (by simp), ixA_get sl_cUnit _ _ hu, k_impl_wayOf _ _ _ _ (c_impl_wayOf _ _ _ _ (StateG.ofB hg hn) hm hq)]
  rfl
/-! sources, drawn -/
theorem src_en (l : List Int) (c : Dl1Cur) : ((AV.own (Id.r 0 0) none 0 l.length l.length, [(Id.l 0, some { arr := false, fr := false, nest := false, esz := 0, cells := cl1Cur c }), (Id.r 0 0, some (rowB true false 1 cI l))]) : R) = en_spec_l1Cur_sources ((l, []), c) := by
  simp [en_spec_l1Cur_sources]
theorem t_spec_l1Cur_sources (b : DBoard) (s : DState) (hu : s.Units.length ≤ 20) (l : List Int) (c : Dl1Cur) (n : Int) (hl : l.length ≤ 5) (hc : Cu c n) (hn : n ≤ Far - 500) :
    OK (P_spec_l1Cur_sources_L3 l c b s 0 l.length l.length (-1)) fun r => ∃ v, r = en_spec_l1Cur_sources v ∧ (v.1.1.length ≤ 20 ∧ Cu v.2 (n + 100)) := by
  unfold Far at hn
  unfold P_spec_l1Cur_sources_L3
  rw [if_neg (by simp)]
  have tl : ∀ (c' : Dl1Cur) (F : Dl1Cur → Int → Prop), F = F := fun _ _ => rfl
  clear tl
  refine OK.ite (fun hpos => ?_) (fun _ => ?_)
  · refine ko_spec_l1Cur_one _ _ (o_spec_l1Cur_one _ _ _ hc (by unfold Far; omega)) fun o ho => ?_
    refine OK.ite (fun _ => ?_) (fun _ => ?_)
    · refine ko_spec_l1Cur_pick _ _ (o_spec_l1Cur_pick _ _ _ ho (by unfold Far; omega)) fun p0 hp0 => ?_
      have hlen : 0 < s.Units.length := by simpa using hpos
      obtain ⟨m, hm⟩ : ∃ m : Nat, p0.1 = m := ⟨p0.1.toNat, by omega⟩
      have hy : s.Units[m]? = some (s.Units[m]'(by omega)) := List.getElem?_eq_getElem (by omega)
      rw [hm, ixA_at sl_cUnit rfl hy]
      have hc2 : Cu p0.2 (n + 10) := hp0.2.2.to
      refine OK.ite (fun _ => ?_) (fun _ => ?_)
      · refine ok_spec_l1Put _ _ (by omega) ?_ fun l' hl' => ?_
        all_goals
          dsimp only
          refine ko_spec_l1Cur_pick _ _ (o_spec_l1Cur_pick _ _ _ hc2 (by unfold Far; omega)) fun p hp => ?_
          obtain ⟨_, _, hp2⟩ := hp
          refine OK.ite (fun _ => ?_) (fun _ => OK.ite (fun _ => ?_) (fun _ => OK.ite (fun _ => ?_) (fun _ => ?_)))
          · refine OK.cast (slc_inj ok_cI) (a := [-1, 0, 100]) rfl ?_
            refine ko_spec_l1Cur_among _ _ (o_spec_l1Cur_among _ _ _ hp2 (by unfold Far; omega) (by simp)) fun q hq => ?_
            rw [apR_eq rt_cI rfl (xs := [q.1]) (Src.row (n := 1) ok_cI rfl rfl) rfl rfl (by simp; omega) (by simp; omega) rfl]
            exact OK.some ⟨((_, []), _), src_en _ _, by simp; omega, hq.2.to⟩
          · exact OK.some ⟨(([], []), _), src_en [] _, by simp, hp2.to⟩
          · refine ko_spec_l1Cur_pick _ _ (o_spec_l1Cur_pick _ _ _ hp2 (by unfold Far; omega)) fun q hq => ?_
            have hq1 : q.1 = 0 ∨ q.1 = 1 := by omega
            rcases hq1 with h | h
            · refine OK.eq (slO_hi rt_cI (l := [0, 1, 2, 3, 4, 5, 6]) (j := 6) rfl (by rw [h]; rfl) (by omega) _) ?_
              exact OK.some ⟨(([0, 1, 2, 3, 4, 5], [6]), _), rfl, by simp, hq.2.2.to⟩
            · refine OK.eq (slO_hi rt_cI (l := [0, 1, 2, 3, 4, 5, 6]) (j := 7) rfl (by rw [h]; rfl) (by omega) _) ?_
              exact OK.some ⟨(([0, 1, 2, 3, 4, 5, 6], []), _), rfl, by simp, hq.2.2.to⟩
          · exact OK.some ⟨((_, []), _), src_en _ _, by dsimp only; omega, hp2.to⟩
      · refine ko_spec_l1Cur_pick _ _ (o_spec_l1Cur_pick _ _ _ hc2 (by unfold Far; omega)) fun p hp => ?_
        obtain ⟨_, _, hp2⟩ := hp
        refine OK.ite (fun _ => ?_) (fun _ => OK.ite (fun _ => ?_) (fun _ => OK.ite (fun _ => ?_) (fun _ => ?_)))
        · refine OK.cast (slc_inj ok_cI) (a := [-1, 0, 100]) rfl ?_
          refine ko_spec_l1Cur_among _ _ (o_spec_l1Cur_among _ _ _ hp2 (by unfold Far; omega) (by simp)) fun q hq => ?_
          rw [apR_eq rt_cI rfl (xs := [q.1]) (Src.row (n := 1) ok_cI rfl rfl) rfl rfl (by simp; omega) (by simp; omega) rfl]
          exact OK.some ⟨((_, []), _), src_en _ _, by simp; omega, hq.2.to⟩
        · exact OK.some ⟨(([], []), _), src_en [] _, by simp, hp2.to⟩
        · refine ko_spec_l1Cur_pick _ _ (o_spec_l1Cur_pick _ _ _ hp2 (by unfold Far; omega)) fun q hq => ?_
          have hq1 : q.1 = 0 ∨ q.1 = 1 := by omega
          rcases hq1 with h | h
          · refine OK.eq (slO_hi rt_cI (l := [0, 1, 2, 3, 4, 5, 6]) (j := 6) rfl (by rw [h]; rfl) (by omega) _) ?_
            exact OK.some ⟨(([0, 1, 2, 3, 4, 5], [6]), _), rfl, by simp, hq.2.2.to⟩
          · refine OK.eq (slO_hi rt_cI (l := [0, 1, 2, 3, 4, 5, 6]) (j := 7) rfl (by rw [h]; rfl) (by omega) _) ?_
            exact OK.some ⟨(([0, 1, 2, 3, 4, 5, 6], []), _), rfl, by simp, hq.2.2.to⟩
        · exact OK.some ⟨((_, []), _), src_en _ _, by dsimp only; omega, hp2.to⟩
    · have hc2 : Cu o.2 (n + 10) := ho.to
      refine ko_spec_l1Cur_pick _ _ (o_spec_l1Cur_pick _ _ _ hc2 (by unfold Far; omega)) fun p hp => ?_
      obtain ⟨_, _, hp2⟩ := hp
      refine OK.ite (fun _ => ?_) (fun _ => OK.ite (fun _ => ?_) (fun _ => OK.ite (fun _ => ?_) (fun _ => ?_)))
      · refine OK.cast (slc_inj ok_cI) (a := [-1, 0, 100]) rfl ?_
        refine ko_spec_l1Cur_among _ _ (o_spec_l1Cur_among _ _ _ hp2 (by unfold Far; omega) (by simp)) fun q hq => ?_
        rw [apR_eq rt_cI rfl (xs := [q.1]) (Src.row (n := 1) ok_cI rfl rfl) rfl rfl (by simp; omega) (by simp; omega) rfl]
        exact OK.some ⟨((_, []), _), src_en _ _, by simp; omega, hq.2.to⟩
      · exact OK.some ⟨(([], []), _), src_en [] _, by simp, hp2.to⟩
      · refine ko_spec_l1Cur_pick _ _ (o_spec_l1Cur_pick _ _ _ hp2 (by unfold Far; omega)) fun q hq => ?_
        have hq1 : q.1 = 0 ∨ q.1 = 1 := by omega
        rcases hq1 with h | h
        · refine OK.eq (slO_hi rt_cI (l := [0, 1, 2, 3, 4, 5, 6]) (j := 6) rfl (by rw [h]; rfl) (by omega) _) ?_
          exact OK.some ⟨(([0, 1, 2, 3, 4, 5], [6]), _), rfl, by simp, hq.2.2.to⟩
        · refine OK.eq (slO_hi rt_cI (l := [0, 1, 2, 3, 4, 5, 6]) (j := 7) rfl (by rw [h]; rfl) (by omega) _) ?_
          exact OK.some ⟨(([0, 1, 2, 3, 4, 5, 6], []), _), rfl, by simp, hq.2.2.to⟩
      · exact OK.some ⟨((_, []), _), src_en _ _, by dsimp only; omega, hp2.to⟩
  · have hc2 : Cu c (n + 10) := hc.to
    refine ko_spec_l1Cur_pick _ _ (o_spec_l1Cur_pick _ _ _ hc2 (by unfold Far; omega)) fun p hp => ?_
    obtain ⟨_, _, hp2⟩ := hp
    refine OK.ite (fun _ => ?_) (fun _ => OK.ite (fun _ => ?_) (fun _ => OK.ite (fun _ => ?_) (fun _ => ?_)))
    · refine OK.cast (slc_inj ok_cI) (a := [-1, 0, 100]) rfl ?_
      refine ko_spec_l1Cur_among _ _ (o_spec_l1Cur_among _ _ _ hp2 (by unfold Far; omega) (by simp)) fun q hq => ?_
      rw [apR_eq rt_cI rfl (xs := [q.1]) (Src.row (n := 1) ok_cI rfl rfl) rfl rfl (by simp; omega) (by simp; omega) rfl]
      exact OK.some ⟨((_, []), _), src_en _ _, by simp; omega, hq.2.to⟩
    · exact OK.some ⟨(([], []), _), src_en [] _, by simp, hp2.to⟩
    · refine ko_spec_l1Cur_pick _ _ (o_spec_l1Cur_pick _ _ _ hp2 (by unfold Far; omega)) fun q hq => ?_
      have hq1 : q.1 = 0 ∨ q.1 = 1 := by omega
      rcases hq1 with h | h
      · refine OK.eq (slO_hi rt_cI (l := [0, 1, 2, 3, 4, 5, 6]) (j := 6) rfl (by rw [h]; rfl) (by omega) _) ?_
        exact OK.some ⟨(([0, 1, 2, 3, 4, 5], [6]), _), rfl, by simp, hq.2.2.to⟩
      · refine OK.eq (slO_hi rt_cI (l := [0, 1, 2, 3, 4, 5, 6]) (j := 7) rfl (by rw [h]; rfl) (by omega) _) ?_
        exact OK.some ⟨(([0, 1, 2, 3, 4, 5, 6], []), _), rfl, by simp, hq.2.2.to⟩
    · exact OK.some ⟨((_, []), _), src_en _ _, by dsimp only; omega, hp2.to⟩
theorem l_spec_l1Cur_sources_L3 (b : DBoard) (hb : BoardN b) (s : DState) (hu : s.Units.length ≤ 20) : ∀ (k : Nat) (l : List Int) (c : Dl1Cur) (n : Int), l.length + k ≤ 5 → Cu c n → n ≤ Far - 1000 - 20 * k →
    ∃ v, L_spec_l1Cur_sources_L3 l c b s 0 l.length l.length ((k : Int) - 1) = some (en_spec_l1Cur_sources v) ∧ (v.1.1.length ≤ 20 ∧ Cu v.2 (n + 20 * k + 100)) := by
  intro k
  induction k with
  | zero =>
    intro l c n hl hc hn
    unfold Far at hn
    refine okA (e_spec_l1Cur_sources_L3 _ _ _ _ _ _ _ _) ?_
    have h := t_spec_l1Cur_sources b s hu l c n (by omega) hc (by unfold Far; omega)
    exact h.mono fun r ⟨v, h1, h2, h3⟩ => ⟨v, h1, h2, h3.to⟩
  | succ k ih =>
    intro l c n hl hc hn
    unfold Far at hn
    refine okA (e_spec_l1Cur_sources_L3 _ _ _ _ _ _ _ _) ?_
    have ht := t_spec_l1Cur_sources b s hu l c n (by omega) hc (by unfold Far; omega)
    unfold P_spec_l1Cur_sources_L3 at ht ⊢
    rw [if_neg (by simp)] at ht
    rw [if_pos (by simp <;> omega), k_spec_mGood _ (c_spec_mGood _ hb.m), wrap_id (n := ((k + 1 : Nat) : Int) - 1 - 1) (by omega) (by omega), show ((k + 1 : Nat) : Int) - 1 - 1 = (k : Int) - 1 by omega]
    refine OK.ite (fun _ => ?_) (fun _ => ?_)
    · refine ko_spec_l1Cur_place _ _ (o_spec_l1Cur_place _ _ _ hc (by unfold Far; omega)) fun p hp => ?_
      refine ok_spec_l1Put _ _ (by omega) ?_ fun l' hl' => ?_
      · obtain ⟨r, h1, h2⟩ := ih l p.2 (n + 4) (by omega) hp (by unfold Far; omega)
        exact ⟨_, h1, r, rfl, h2.1, h2.2.to⟩
      · obtain ⟨r, h1, h2⟩ := ih l' p.2 (n + 4) (by omega) hp (by unfold Far; omega)
        exact ⟨_, h1, r, rfl, h2.1, h2.2.to⟩
    · exact ht.mono fun r ⟨v, h1, h2, h3⟩ => ⟨v, h1, h2, h3.to⟩
theorem o_spec_l1Cur_sources (c : Dl1Cur) (b : DBoard) (s : DState) (hb : BoardN b) (hu : s.Units.length ≤ 20) (n : Int) (hc : Cu c n) (hn : n ≤ Far - 2000) : ∃ v, A_spec_l1Cur_sources c b s = some (en_spec_l1Cur_sources v) ∧ (v.1.1.length ≤ 20 ∧ Cu v.2 (n + 300)) := by
  refine okA (e_spec_l1Cur_sources _ _ _) ?_
  unfold P_spec_l1Cur_sources
  unfold Far at hn
  refine ko_spec_l1Cur_pick _ _ (o_spec_l1Cur_pick _ _ _ hc (by unfold Far; omega)) fun p hp => ?_
  obtain ⟨m, hm⟩ : ∃ m : Nat, p.1 = (m : Int) - 1 := ⟨(p.1 + 1).toNat, by omega⟩
  rw [hm]
  obtain ⟨r, h1, h2⟩ := l_spec_l1Cur_sources_L3 b hb s hu m [] p.2 (n + 2) (by simp; omega) hp.2.2 (by unfold Far; omega)
  exact ⟨_, h1, r, rfl, h2.1, h2.2.to⟩
theorem gvPart {α : Type} {σ : Store} {c : α → List AV} {e : Nat} (h : COk c e) {id : Id} {fr : Bool} {l r : List α} {m : Nat} (hb : σ.get? id = some (rowB fr false e c (l ++ r))) : giveUpV σ (.own id none 0 l.length m) = some (slc c l) := by
  have := giveN h (n := l.length) (cap := m) (by simp) hb
  rw [List.take_left] at this
  exact this
theorem inj_bsil : Inj fun a : DBoard × DState × Int × List Int => AV.tup [AV.agg [slc cTerrain a.fst.Rules.Terrains, slc cKind a.fst.Rules.Kinds, I a.fst.Rules.Stack, I a.fst.Rules.River, I a.fst.Rules.Road, I a.fst.Rules.Supply, I a.fst.Rules.Turns, I a.fst.Map.Width, I a.fst.Map.Height, slc cI a.fst.Map.Terrain, slc cI a.fst.Map.Rivers, slc cI a.fst.Map.Roads], AV.agg [I a.snd.fst.Turn, I a.snd.fst.Weather, slc cUnit a.snd.fst.Units], I a.snd.snd.fst, slc cI a.snd.snd.snd] := fun a b h => by
  injection h with h
  injection h with h1 h
  injection h with h2 h
  injection h with h3 h
  injection h with h4 h
  injection h3 with h3
  injection h3 with _ h3
  exact Prod.ext (inj_board _ _ h1) (Prod.ext (inj_state _ _ h2) (Prod.ext h3 (slc_inj ok_cI _ _ h4)))
/-! breadth first search is right -/
/-- In so many steps from a source, through open places. -/
def reachN (m : DMap) (op : List Bool) (src : List Int) : Nat → Int → Prop
  | 0, k => k ∈ src ∧ getI op k = some true
  | d + 1, k => ∃ j, reachN m op src d j ∧ k ∈ nbL m j ∧ getI op k = some true
def reached (st : St2) (i : Int) : Prop := 0 ≤ i ∧ 0 ≤ (getI st.1 i).getD (-1)
theorem reached_far {st : St2} {i : Int} (h : reached st i) : ∃ v, getI st.1 i = some v ∧ 0 ≤ v ∧ farL st i = v := by
  obtain ⟨_, h⟩ := h
  cases hg : getI st.1 i with
  | none => rw [hg] at h; simp at h
  | some v => rw [hg] at h; exact ⟨v, rfl, h, by unfold farL; rw [hg]; rfl⟩
/-- The queue: what is reached stands in it, in order of how far it is; those before 'a' have been looked at. -/
structure BQ (m : DMap) (op : List Bool) (src : List Int) (n a : Nat) (st : St2) : Prop where
  len : st.1.length = n
  inq : ∀ i ∈ st.2, 0 ≤ i ∧ i < n ∧ reached st i
  all : ∀ i, reached st i → i ∈ st.2
  ord : ∀ (p q : Nat) (x y : Int), p ≤ q → st.2[p]? = some x → st.2[q]? = some y → farL st x ≤ farL st y
  top : ∀ (x c : Int), st.2[a]? = some c → x ∈ st.2 → farL st x ≤ farL st c + 1
  low : ∀ (p : Nat) (x : Int), p < a → st.2[p]? = some x → ∀ k ∈ nbL m x, getI op k = some true → reached st k ∧ farL st k ≤ farL st x + 1
  one : ∀ i, reached st i → reachN m op src (farL st i).toNat i
  src0 : ∀ i ∈ src, getI op i = some true → reached st i ∧ farL st i = 0
theorem getI_set {l : List Int} {k i z : Int} {n : Nat} (hl : l.length = n) (h0 : 0 ≤ k) (h1 : k < n) : getI (l.set k.toNat z) i = if i = k then some z else getI l i := by
  unfold getI
  by_cases hi : 0 ≤ i
  · simp only [if_pos hi]
    by_cases h : i = k
    · subst h
      rw [if_pos rfl, List.getElem?_set_self (by omega)]
    · rw [if_neg h, List.getElem?_set_ne (by omega)]
  · simp only [if_neg hi]
    rw [if_neg (by omega)]
theorem reached_set {st : St2} {k i z : Int} {q : List Int} {n : Nat} (hl : st.1.length = n) (h0 : 0 ≤ k) (h1 : k < n) (hz : 0 ≤ z) : reached (st.1.set k.toNat z, q) i ↔ i = k ∨ reached st i := by
  unfold reached
  dsimp only
  rw [getI_set hl h0 h1]
  by_cases h : i = k
  · subst h
    rw [if_pos rfl]
    exact ⟨fun _ => .inl rfl, fun _ => ⟨h0, hz⟩⟩
  · rw [if_neg h]
    exact ⟨.inr, fun h2 => h2.resolve_left h⟩
/-- While the neighbours of the queue's place 'a' are looked at. -/
structure BV (m : DMap) (op : List Bool) (src : List Int) (n a : Nat) (c d : Int) (seen : List Int) (st : St2) : Prop where
  len : st.1.length = n
  inq : ∀ i ∈ st.2, 0 ≤ i ∧ i < n ∧ reached st i
  all : ∀ i, reached st i → i ∈ st.2
  cur : st.2[a]? = some c ∧ farL st c = d ∧ 0 ≤ d
  hi : ∀ x ∈ st.2, farL st x ≤ d + 1
  ord : ∀ (p q : Nat) (x y : Int), p ≤ q → st.2[p]? = some x → st.2[q]? = some y → farL st x ≤ farL st y
  low : ∀ (p : Nat) (x : Int), p < a → st.2[p]? = some x → ∀ k ∈ nbL m x, getI op k = some true → reached st k ∧ farL st k ≤ farL st x + 1
  one : ∀ i, reached st i → reachN m op src (farL st i).toNat i
  src0 : ∀ i ∈ src, getI op i = some true → reached st i ∧ farL st i = 0
  done : ∀ k ∈ seen, getI op k = some true → reached st k ∧ farL st k ≤ d + 1
theorem BV.visit {m : DMap} {op : List Bool} {src : List Int} {n a : Nat} {c d : Int} {seen : List Int} {st : St2} (hop : op.length = n) (h : BV m op src n a c d seen st) {k : Int} (hk : k ∈ nbL m c) :
    BV m op src n a c d (seen ++ [k]) (visitB op d st k) := by
  rcases visit_cases (d := d) (st := st) (k := k) hop with e | ⟨k0, k1, ko, kn, e⟩
  · rw [e]
    refine ⟨h.len, h.inq, h.all, h.cur, h.hi, h.ord, h.low, h.one, h.src0, ?_⟩
    intro x hx hox
    rcases List.mem_append.1 hx with hx | hx
    · exact h.done x hx hox
    · simp only [List.mem_singleton] at hx
      subst hx
      obtain ⟨j, hj, hjx, hjl⟩ := getI_some hox
      have hg := far_get h.len (i := x) (by omega) (by omega)
      have hr : reached st x := by
        refine ⟨by omega, ?_⟩
        rw [hg]
        show 0 ≤ farL st x
        by_cases hneg : farL st x < 0
        · exfalso
          have e2 : visitB op d st x = (st.1.set x.toNat (d + 1), st.2 ++ [x]) := by rw [visit_get hox, if_pos rfl, if_pos hneg]
          rw [e] at e2
          have := congrArg (fun z : St2 => z.2.length) e2
          simp at this
        · omega
      exact ⟨hr, h.hi x (h.all x hr)⟩
  · have hnot : ∀ x, reached st x → x ≠ k := fun x hx hxk => by
      obtain ⟨v, _, h2, h3⟩ := reached_far hx
      rw [hxk] at h3
      omega
    have hd := h.cur.2.2
    have far' : ∀ x, 0 ≤ x → farL (st.1.set k.toNat (d + 1), st.2 ++ [k]) x = if x = k then d + 1 else farL st x := fun x hx => far_set h.len k0 k1 hx
    have farr : ∀ x, reached st x → farL (st.1.set k.toNat (d + 1), st.2 ++ [k]) x = farL st x := fun x hx => by rw [far' x hx.1, if_neg (hnot x hx)]
    have fark : farL (st.1.set k.toNat (d + 1), st.2 ++ [k]) k = d + 1 := by rw [far' k k0, if_pos rfl]
    have rs : ∀ x, reached (st.1.set k.toNat (d + 1), st.2 ++ [k]) x ↔ x = k ∨ reached st x := fun x => reached_set h.len k0 k1 (by omega)
    have hcl : st.2[a]? = some c := h.cur.1
    have hal := (List.getElem?_eq_some_iff.1 hcl).1
    have hrc : reached st c := (h.inq c (mem_of_get hcl)).2.2
    have get' : ∀ p x, (st.2 ++ [k])[p]? = some x → (p < st.2.length ∧ st.2[p]? = some x) ∨ (p = st.2.length ∧ x = k) := fun p x hx => by
      by_cases hp : p < st.2.length
      · rw [List.getElem?_append_left hp] at hx
        exact .inl ⟨hp, hx⟩
      · rw [List.getElem?_append_right (by omega)] at hx
        have hp2 := (List.getElem?_eq_some_iff.1 hx).1
        simp only [List.length_cons, List.length_nil] at hp2
        have hpe : p = st.2.length := by omega
        subst hpe
        simp at hx
        exact .inr ⟨rfl, hx.symm⟩
    rw [e]
    refine ⟨by simp [h.len], fun i hi => ?_, fun i hi => ?_, ?_, fun x hx => ?_, fun p q x y hpq hx hy => ?_, fun p x hp hx k' hk' ho' => ?_, fun i hi => ?_, fun i hi ho => ?_, fun x hx ho => ?_⟩
    · rcases List.mem_append.1 hi with hi | hi
      · have := h.inq i hi
        exact ⟨this.1, this.2.1, (rs i).2 (.inr this.2.2)⟩
      · simp only [List.mem_singleton] at hi
        subst hi
        exact ⟨k0, k1, (rs i).2 (.inl rfl)⟩
    · rcases (rs i).1 hi with hi | hi
      · subst hi; exact List.mem_append.2 (.inr (by simp))
      · exact List.mem_append.2 (.inl (h.all i hi))
    · refine ⟨by rw [List.getElem?_append_left hal]; exact hcl, by rw [farr c hrc]; exact h.cur.2.1, hd⟩
    · rcases List.mem_append.1 hx with hx | hx
      · rw [farr x (h.inq x hx).2.2]; exact h.hi x hx
      · simp only [List.mem_singleton] at hx
        subst hx
        rw [fark]; omega
    · rcases get' p x hx with ⟨hp, hx⟩ | ⟨hp, hx⟩
      · rw [farr x (h.inq x (mem_of_get hx)).2.2]
        rcases get' q y hy with ⟨hq, hy⟩ | ⟨hq, hy⟩
        · rw [farr y (h.inq y (mem_of_get hy)).2.2]
          exact h.ord p q x y hpq hx hy
        · rw [hy, fark]
          exact h.hi x (mem_of_get hx)
      · rcases get' q y hy with ⟨hq, hy⟩ | ⟨hq, hy⟩
        · omega
        · rw [hx, hy]; omega
    · rcases get' p x hx with ⟨hp2, hx⟩ | ⟨hp2, hx⟩
      · have := h.low p x hp hx k' hk' ho'
        rw [farr k' this.1, farr x (h.inq x (mem_of_get hx)).2.2]
        exact ⟨(rs k').2 (.inr this.1), this.2⟩
      · omega
    · rcases (rs i).1 hi with hi | hi
      · subst hi
        rw [fark, show (d + 1).toNat = d.toNat + 1 by omega]
        have := h.one c hrc
        rw [h.cur.2.1] at this
        exact ⟨c, this, hk, ko⟩
      · rw [farr i hi]; exact h.one i hi
    · have := h.src0 i hi ho
      exact ⟨(rs i).2 (.inr this.1), by rw [farr i this.1]; exact this.2⟩
    · rcases List.mem_append.1 hx with hx | hx
      · have := h.done x hx ho
        exact ⟨(rs x).2 (.inr this.1), by rw [farr x this.1]; exact this.2⟩
      · simp only [List.mem_singleton] at hx
        subst hx
        exact ⟨(rs x).2 (.inl rfl), by rw [fark]; omega⟩
theorem BV.fold {m : DMap} {op : List Bool} {src : List Int} {n a : Nat} {c d : Int} (hop : op.length = n) : ∀ (ks seen : List Int) (st : St2), (∀ k ∈ ks, k ∈ nbL m c) → BV m op src n a c d seen st → BV m op src n a c d (seen ++ ks) (ks.foldl (visitB op d) st)
  | [], seen, st, _, h => by simpa using h
  | k :: ks, seen, st, hk, h => by
    have := BV.fold hop ks (seen ++ [k]) _ (fun x hx => hk x (by simp [hx])) (h.visit hop (hk k (by simp)))
    simpa using this
theorem BQ.step {m : DMap} {op : List Bool} {src : List Int} {n a : Nat} {st : St2} (hop : op.length = n) (h : BQ m op src n a st) (ha : a < st.2.length) : BQ m op src n (a + 1) (stepB m op a st) := by
  have hq : st.2[a]? = some (quL st a) := by unfold quL; rw [List.getD_eq_getElem?_getD, List.getElem?_eq_getElem ha]; rfl
  have hc := h.inq _ (mem_of_get hq)
  obtain ⟨v, _, hv, hv2⟩ := reached_far hc.2.2
  have h0 : BV m op src n a (quL st a) (farL st (quL st a)) [] st :=
    ⟨h.len, h.inq, h.all, ⟨hq, rfl, by omega⟩, fun x hx => h.top x _ hq hx, h.ord, h.low, h.one, h.src0, fun k hk => by cases hk⟩
  have hf := BV.fold hop (nbL m (quL st a)) [] st (fun _ hk => hk) h0
  rw [List.nil_append] at hf
  have hf : BV m op src n a (quL st a) (farL st (quL st a)) (nbL m (quL st a)) (stepB m op a st) := hf
  refine ⟨hf.len, hf.inq, hf.all, hf.ord, fun x c' hc' hx => ?_, fun p x hp hx k hk ho => ?_, hf.one, hf.src0⟩
  · have h1 := hf.hi x hx
    have h2 := hf.ord a (a + 1) _ _ (by omega) hf.cur.1 hc'
    rw [hf.cur.2.1] at h2
    omega
  · by_cases hpa : p = a
    · subst hpa
      have := hf.cur.1
      rw [hx] at this
      injection this with this
      subst this
      rw [hf.cur.2.1]
      exact hf.done k hk ho
    · exact hf.low p x (by omega) hx k hk ho
/-- While the sources are laid. -/
structure BS (m : DMap) (op : List Bool) (src : List Int) (n : Nat) (seen : List Int) (st : St2) : Prop where
  len : st.1.length = n
  inq : ∀ i ∈ st.2, 0 ≤ i ∧ i < n ∧ reached st i ∧ farL st i = 0
  all : ∀ i, reached st i → i ∈ st.2
  one : ∀ i, reached st i → i ∈ src ∧ getI op i = some true
  done : ∀ i ∈ seen, getI op i = some true → reached st i
theorem BS.seed {m : DMap} {op : List Bool} {src : List Int} {n : Nat} {seen : List Int} {st : St2} (hop : op.length = n) (h : BS m op src n seen st) {i : Int} (hi : i ∈ src) : BS m op src n (seen ++ [i]) (seedB op st i) := by
  unfold seedB
  cases hg : getI op i with
  | none =>
    refine ⟨h.len, h.inq, h.all, h.one, fun x hx ho => ?_⟩
    rcases List.mem_append.1 hx with hx | hx
    · exact h.done x hx ho
    · simp only [List.mem_singleton] at hx
      subst hx
      rw [hg] at ho; cases ho
  | some o =>
    cases o with
    | false =>
      refine ⟨h.len, h.inq, h.all, h.one, fun x hx ho => ?_⟩
      rcases List.mem_append.1 hx with hx | hx
      · exact h.done x hx ho
      · simp only [List.mem_singleton] at hx
        subst hx
        rw [hg] at ho; cases ho
    | true =>
      obtain ⟨j, hj, _, hl⟩ := getI_some hg
      have k0 : 0 ≤ i := by omega
      have k1 : i < n := by omega
      have rs : ∀ x, reached (st.1.set i.toNat 0, st.2 ++ [i]) x ↔ x = i ∨ reached st x := fun x => reached_set h.len k0 k1 (Int.le_refl 0)
      rw [if_pos (show (some true).getD false = true from rfl)]
      refine ⟨by simp [h.len], fun x hx => ?_, fun x hx => ?_, fun x hx => ?_, fun x hx ho => ?_⟩
      · rcases List.mem_append.1 hx with hx | hx
        · have := h.inq x hx
          refine ⟨this.1, this.2.1, (rs x).2 (.inr this.2.2.1), ?_⟩
          rw [far_set h.len k0 k1 this.1]
          split
          · rfl
          · exact this.2.2.2
        · simp only [List.mem_singleton] at hx
          subst hx
          exact ⟨k0, k1, (rs x).2 (.inl rfl), by rw [far_set h.len k0 k1 k0, if_pos rfl]⟩
      · rcases (rs x).1 hx with hx | hx
        · subst hx; exact List.mem_append.2 (.inr (by simp))
        · exact List.mem_append.2 (.inl (h.all x hx))
      · rcases (rs x).1 hx with hx | hx
        · subst hx; exact ⟨hi, hg⟩
        · exact h.one x hx
      · rcases List.mem_append.1 hx with hx | hx
        · exact (rs x).2 (.inr (h.done x hx ho))
        · simp only [List.mem_singleton] at hx
          subst hx
          exact (rs x).2 (.inl rfl)
theorem BS.fold {m : DMap} {op : List Bool} {src : List Int} {n : Nat} (hop : op.length = n) : ∀ (l seen : List Int) (st : St2), (∀ i ∈ l, i ∈ src) → BS m op src n seen st → BS m op src n (seen ++ l) (l.foldl (seedB op) st)
  | [], seen, st, _, h => by simpa using h
  | i :: l, seen, st, hl, h => by
    have := BS.fold hop l (seen ++ [i]) _ (fun j hj => hl j (by simp [hj])) (h.seed hop (hl i (by simp)))
    simpa using this
theorem BS.queue {m : DMap} {op : List Bool} {src : List Int} {n : Nat} {st : St2} (h : BS m op src n src st) : BQ m op src n 0 st := by
  refine ⟨h.len, fun i hi => ⟨(h.inq i hi).1, (h.inq i hi).2.1, (h.inq i hi).2.2.1⟩, h.all, fun p q x y _ hx hy => ?_, fun x c hc hx => ?_, fun p x hp => by omega, fun i hi => ?_, fun i hi ho => ?_⟩
  · rw [(h.inq x (mem_of_get hx)).2.2.2, (h.inq y (mem_of_get hy)).2.2.2]; exact Int.le_refl 0
  · rw [(h.inq x hx).2.2.2, (h.inq c (mem_of_get hc)).2.2.2]; omega
  · rw [(h.inq i (h.all i hi)).2.2.2]
    exact h.one i hi
  · have := h.done i hi ho
    exact ⟨this, (h.inq i (h.all i this)).2.2.2⟩
theorem BQ.run {m : DMap} {op : List Bool} {src : List Int} {n : Nat} (hop : op.length = n) : ∀ (f a : Nat) (st : St2), totB st ≤ a + f → BI n src a st → BQ m op src n a st → ∃ b, (runB m op f a st).2.length ≤ b ∧ BQ m op src n b (runB m op f a st)
  | 0, a, st, ht, _, h => ⟨a, by unfold runB; unfold totB at ht; omega, h⟩
  | f + 1, a, st, ht, hb, h => by
    unfold runB
    split
    · rename_i ha
      have hs := hb.step (m := m) hop ha
      exact BQ.run hop f (a + 1) _ (by omega) hs.1 (h.step hop ha)
    · exact ⟨a, by omega, h⟩
theorem spread_queue (m : DMap) (op : List Bool) (src : List Int) : ∃ b st, spreadL m op src = st.1 ∧ st.2.length ≤ b ∧ BQ m op src op.length b st := by
  have hi := (seeds_ok (op := op) (n := op.length) (src := src) rfl src _ (fun _ h => h) (BI.init op.length src)).1
  have h0 : BS m op src op.length [] (List.replicate op.length (-1), []) := by
    have nr : ∀ i, ¬ reached (List.replicate op.length (-1), []) i := fun i hr => by
      obtain ⟨v, h1, h2, _⟩ := reached_far hr
      obtain ⟨k, _, hx, _⟩ := getI_some h1
      have := List.eq_of_mem_replicate (mem_of_get hx)
      omega
    exact ⟨by simp, fun i hi => (by cases hi), fun i hi => absurd hi (nr i), fun i hi => absurd hi (nr i), fun i hi => (by cases hi)⟩
  have hs := BS.fold rfl src [] _ (fun _ h => h) h0
  rw [List.nil_append] at hs
  obtain ⟨b, h1, h2⟩ := BQ.run (m := m) rfl (totB (seedsL op src)) 0 (seedsL op src) (by omega) hi hs.queue
  exact ⟨b, _, rfl, h1, h2⟩
/-- No place is farther than a way to it is long. -/
theorem spread_le {m : DMap} {op : List Bool} {src : List Int} {d : Nat} {k : Int} (h : reachN m op src d k) : ∃ v, getI (spreadL m op src) k = some v ∧ 0 ≤ v ∧ v ≤ d := by
  obtain ⟨b, st, he, hb, hq⟩ := spread_queue m op src
  have key : ∀ (d : Nat) (k : Int), reachN m op src d k → reached st k ∧ farL st k ≤ d := by
    intro d
    induction d with
    | zero =>
      intro k h
      have := hq.src0 k h.1 h.2
      exact ⟨this.1, by omega⟩
    | succ d ih =>
      intro k h
      obtain ⟨j, hj, hk, ho⟩ := h
      have h1 := ih j hj
      obtain ⟨p, hp, hpx⟩ := List.mem_iff_getElem.1 (hq.all j h1.1)
      have := hq.low p j (by omega) (by rw [List.getElem?_eq_getElem hp, hpx]) k hk ho
      exact ⟨this.1, by omega⟩
  have := key d k h
  obtain ⟨v, h1, h2, h3⟩ := reached_far this.1
  rw [he]
  exact ⟨v, h1, h2, by omega⟩
/-- There is a way as long as a place is far. -/
theorem spread_one {m : DMap} {op : List Bool} {src : List Int} {k v : Int} (h : getI (spreadL m op src) k = some v) (h0 : 0 ≤ v) : reachN m op src v.toNat k := by
  obtain ⟨b, st, he, hb, hq⟩ := spread_queue m op src
  rw [he] at h
  obtain ⟨j, hj, _⟩ := getI_some h
  have hr : reached st k := ⟨by omega, by rw [h]; exact h0⟩
  have := hq.one k hr
  have hf : farL st k = v := by unfold farL; rw [h]; rfl
  rwa [hf] at this
/-! ways over open places: back, on, along -/
theorem hexL_idx {m : DMap} {h : DHex} (h0 : 0 ≤ idxL m h) : hexL m (idxL m h) = h := by
  unfold idxL at *
  split at h0
  · rename_i hc
    rw [if_pos hc]
    simp only [Bool.and_eq_true, inB_iff] at hc
    obtain ⟨⟨a, b⟩, c, d⟩ := hc
    obtain ⟨q, r⟩ := h
    dsimp only at a b c d h0 ⊢
    unfold hexL
    rw [Int.tmod_eq_emod_of_nonneg h0, Int.tdiv_eq_ediv_of_nonneg h0]
    have e : r * m.Width + q = q + r * m.Width := by omega
    rw [e, Int.add_mul_emod_self_right, Int.add_mul_ediv_right _ _ (by omega), Int.emod_eq_of_lt a (by omega), Int.ediv_eq_zero_of_lt a (by omega)]
    simp
  · omega
theorem idx_hexL {m : DMap} {i : Int} (hw : 0 < m.Width) (h0 : 0 ≤ i) (h1 : i < m.Width * m.Height) : idxL m (hexL m i) = i := by
  unfold idxL hexL
  rw [Int.tmod_eq_emod_of_nonneg h0, Int.tdiv_eq_ediv_of_nonneg h0]
  dsimp only
  have a := Int.emod_nonneg i (show m.Width ≠ 0 by omega)
  have b := Int.emod_lt_of_pos i hw
  have c : 0 ≤ i / m.Width := Int.ediv_nonneg h0 (Int.le_of_lt hw)
  have d : i / m.Width < m.Height := Int.ediv_lt_of_lt_mul hw (by rwa [Int.mul_comm] at h1)
  rw [if_pos (by simp only [Bool.and_eq_true, inB_iff]; omega)]
  have := Int.emod_add_mul_ediv i m.Width
  rw [Int.mul_comm] at this
  omega
theorem step_back (h : DHex) {d : Int} (hd : d ∈ dl) : ∃ e ∈ dl, stepL (stepL h d 1) e 1 = h := by
  obtain ⟨q, r⟩ := h
  simp only [dl, List.mem_cons, List.not_mem_nil, or_false] at hd
  rcases hd with h | h | h | h | h | h <;> subst h
  · exact ⟨3, by simp [dl], by simp [stepL, nthI, dq, dr]; omega⟩
  · exact ⟨4, by simp [dl], by simp [stepL, nthI, dq, dr]; omega⟩
  · exact ⟨5, by simp [dl], by simp [stepL, nthI, dq, dr]; omega⟩
  · exact ⟨0, by simp [dl], by simp [stepL, nthI, dq, dr]; omega⟩
  · exact ⟨1, by simp [dl], by simp [stepL, nthI, dq, dr]; omega⟩
  · exact ⟨2, by simp [dl], by simp [stepL, nthI, dq, dr]; omega⟩
theorem nb_step {m : DMap} {i k : Int} (hk : k ∈ nbL m i) : 0 ≤ k ∧ ∃ d ∈ dl, k = nextL m i d ∧ hexL m k = stepL (hexL m i) d 1 := by
  unfold nbL at hk
  rw [List.mem_filter, List.mem_map] at hk
  obtain ⟨⟨d, hd, rfl⟩, hk0⟩ := hk
  have hk0 : 0 ≤ nextL m i d := by simpa using hk0
  refine ⟨hk0, d, hd, rfl, ?_⟩
  unfold nextL at hk0 ⊢
  exact hexL_idx hk0
theorem nb_symm {m : DMap} {i k : Int} (hw : 0 < m.Width) (h0 : 0 ≤ i) (h1 : i < m.Width * m.Height) (hk : k ∈ nbL m i) : i ∈ nbL m k := by
  obtain ⟨k0, d, hd, rfl, he⟩ := nb_step hk
  obtain ⟨e, he1, he2⟩ := step_back (hexL m i) hd
  unfold nbL
  rw [List.mem_filter, List.mem_map]
  refine ⟨⟨e, he1, ?_⟩, by simpa using h0⟩
  unfold nextL at he ⊢
  rw [he, he2, idx_hexL hw h0 h1]
theorem dist_one {m : DMap} {i k : Int} (hw : 0 < m.Width) (k0 : 0 ≤ k) (k1 : k < m.Width * m.Height) : distL (hexL m i) (hexL m k) = 1 ↔ k ∈ nbL m i := by
  constructor
  · intro h
    have key : ∃ d ∈ dl, stepL (hexL m i) d 1 = hexL m k := by
      generalize hexL m i = a at h ⊢
      generalize hexL m k = c at h ⊢
      obtain ⟨p, q⟩ := a
      obtain ⟨x, y⟩ := c
      unfold distL absI at h
      dsimp only at h
      have hc : (x = p + 1 ∧ y = q) ∨ (x = p + 1 ∧ y = q - 1) ∨ (x = p ∧ y = q - 1) ∨ (x = p - 1 ∧ y = q) ∨ (x = p - 1 ∧ y = q + 1) ∨ (x = p ∧ y = q + 1) := by
        rw [Int.tdiv_eq_ediv_of_nonneg (by split <;> split <;> split <;> omega)] at h
        split at h <;> split at h <;> split at h <;> omega
      rcases hc with ⟨h1, h2⟩ | ⟨h1, h2⟩ | ⟨h1, h2⟩ | ⟨h1, h2⟩ | ⟨h1, h2⟩ | ⟨h1, h2⟩ <;> subst h1 <;> subst h2
      · exact ⟨0, by simp [dl], by simp [stepL, nthI, dq, dr]⟩
      · exact ⟨1, by simp [dl], by simp [stepL, nthI, dq, dr, Int.sub_eq_add_neg]⟩
      · exact ⟨2, by simp [dl], by simp [stepL, nthI, dq, dr, Int.sub_eq_add_neg]⟩
      · exact ⟨3, by simp [dl], by simp [stepL, nthI, dq, dr, Int.sub_eq_add_neg]⟩
      · exact ⟨4, by simp [dl], by simp [stepL, nthI, dq, dr, Int.sub_eq_add_neg]⟩
      · exact ⟨5, by simp [dl], by simp [stepL, nthI, dq, dr]⟩
    obtain ⟨d, hd, he⟩ := key
    unfold nbL
    rw [List.mem_filter, List.mem_map]
    refine ⟨⟨d, hd, ?_⟩, by simpa using k0⟩
    unfold nextL
    rw [he, idx_hexL hw k0 k1]
  · intro h
    obtain ⟨_, d, hd, _, he⟩ := nb_step h
    rw [he]
    generalize hexL m i = a
    obtain ⟨p, q⟩ := a
    simp only [dl, List.mem_cons, List.not_mem_nil, or_false] at hd
    have sub1 : ∀ z : Int, p + z - p = z := fun z => by omega
    have sub2 : ∀ z : Int, q + z - q = z := fun z => by omega
    rcases hd with h | h | h | h | h | h <;> subst h <;> simp only [stepL, distL, sub1, sub2] <;> decide
theorem reach_open {m : DMap} {op : List Bool} {src : List Int} {d : Nat} {k : Int} (h : reachN m op src d k) : getI op k = some true := by
  cases d with
  | zero => exact h.2
  | succ d =>
    obtain ⟨_, _, _, h⟩ := h
    exact h
/-- A map of as many places as are told open or not. -/
structure MapO (m : DMap) (op : List Bool) : Prop where
  w : 0 < m.Width
  n : (op.length : Int) = m.Width * m.Height
theorem MapO.back {m : DMap} {op : List Bool} (h : MapO m op) {c i : Int} {b : Bool} (hc : getI op c = some b) (hi : i ∈ nbL m c) : c ∈ nbL m i := by
  obtain ⟨k, rfl, hk, _⟩ := getI_some hc
  have := h.n
  have hl := (List.getElem?_eq_some_iff.1 hk).1
  exact nb_symm h.w (by omega) (by omega) hi
theorem reach_cat {m : DMap} {op : List Bool} {src : List Int} {a : Int} (hm : MapO m op) : ∀ (b : Nat) (i : Int) (n : Nat), reachN m op [a] b i → reachN m op src n i → reachN m op src (n + b) a
  | 0, i, n, h, h2 => by
    have : i = a := by simpa using h.1
    subst this
    exact h2
  | b + 1, i, n, ⟨c, hc, hi, ho⟩, h2 => by
    have oc := reach_open hc
    have := reach_cat hm b c (n + 1) hc ⟨i, h2, hm.back oc hi, oc⟩
    rwa [show n + 1 + b = n + (b + 1) by omega] at this
theorem reach_src {m : DMap} {op : List Bool} {src : List Int} {a : Int} (hm : MapO m op) : ∀ (n : Nat) (k : Int) (b : Nat), reachN m op src n k → reachN m op [a] b k → ∃ s ∈ src, reachN m op [a] (b + n) s
  | 0, k, b, h, h2 => ⟨k, h.1, h2⟩
  | n + 1, k, b, ⟨c, hc, hk, ho⟩, h2 => by
    have oc := reach_open hc
    have := reach_src hm n c (b + 1) hc ⟨k, h2, hm.back oc hk, oc⟩
    rwa [show b + 1 + n = b + (n + 1) by omega] at this
theorem far_sum {m : DMap} {op : List Bool} {src : List Int} {a k v w : Int} (hm : MapO m op) (h : getI (spreadL m op src) k = some v) (hv : 0 ≤ v) (h2 : getI (spreadL m op [a]) k = some w) (hw : 0 ≤ w) : ∃ n, getI (spreadL m op src) a = some n ∧ 0 ≤ n ∧ n ≤ v + w := by
  obtain ⟨n, h1, h2, h3⟩ := spread_le (reach_cat hm _ _ _ (spread_one h2 hw) (spread_one h hv))
  exact ⟨n, h1, h2, by omega⟩
theorem far_edge {m : DMap} {op : List Bool} {src : List Int} {j k v : Int} (h : getI (spreadL m op src) j = some v) (hv : 0 ≤ v) (hk : k ∈ nbL m j) (ho : getI op k = some true) : ∃ w, getI (spreadL m op src) k = some w ∧ 0 ≤ w ∧ w ≤ v + 1 := by
  obtain ⟨n, h1, h2, h3⟩ := spread_le (d := v.toNat + 1) ⟨j, spread_one h hv, hk, ho⟩
  exact ⟨n, h1, h2, by omega⟩
theorem far_zero {m : DMap} {op : List Bool} {src : List Int} {k : Int} (hk : k ∈ src) (ho : getI op k = some true) : getI (spreadL m op src) k = some 0 := by
  obtain ⟨n, h1, h2, h3⟩ := spread_le (m := m) (d := 0) ⟨hk, ho⟩
  rw [h1]
  congr 1
  omega
theorem far_open {m : DMap} {op : List Bool} {src : List Int} {k v : Int} (h : getI (spreadL m op src) k = some v) (hv : 0 ≤ v) : getI op k = some true := reach_open (spread_one h hv)
theorem zero_src {m : DMap} {op : List Bool} {src : List Int} {k : Int} (h : getI (spreadL m op src) k = some 0) : k ∈ src := (spread_one h (by omega)).1
theorem far_start {m : DMap} {op : List Bool} {src : List Int} {a n : Int} (hm : MapO m op) (h : getI (spreadL m op src) a = some n) (hn : 0 ≤ n) : ∃ s ∈ src, getI (spreadL m op [a]) s = some n := by
  have ha := far_open h hn
  obtain ⟨s, hs, hr⟩ := reach_src (a := a) hm _ a 0 (spread_one h hn) ⟨by simp, ha⟩
  obtain ⟨v, h1, h2, h3⟩ := spread_le hr
  obtain ⟨q, q1, q2, q3⟩ := far_sum hm (far_zero (m := m) hs (far_open h1 h2)) (by omega) h1 h2
  rw [h] at q1
  cases q1
  refine ⟨s, hs, ?_⟩
  rw [h1]
  congr 1
  omega
theorem far_next {m : DMap} {op : List Bool} {src : List Int} {j w : Int} (hm : MapO m op) (h : getI (spreadL m op src) j = some w) (hw : 1 ≤ w) : ∃ k ∈ nbL m j, getI (spreadL m op src) k = some (w - 1) := by
  have hr := spread_one h (by omega)
  obtain ⟨d, hd⟩ : ∃ d, w.toNat = d + 1 := ⟨w.toNat - 1, by omega⟩
  rw [hd] at hr
  obtain ⟨c, hc, hj, ho⟩ := hr
  obtain ⟨v, h1, h2, h3⟩ := spread_le hc
  have oc := reach_open hc
  obtain ⟨q, q1, q2, q3⟩ := far_edge h1 h2 hj ho
  rw [h] at q1
  cases q1
  refine ⟨c, hm.back oc hj, ?_⟩
  rw [h1]
  congr 1
  omega
/-! a path, checked -/
def okAt (m : DMap) (op : List Bool) (l : List Int) (n : Nat) : Bool := match l[n]? with
  | none => true
  | some i => (getI op i).getD false && (n == 0 || decide (i ∈ nbL m (l.getD (n - 1) 0)))
theorem okAt_some {m : DMap} {op : List Bool} {l : List Int} {n : Nat} {x : Int} (h : okAt m op l n = true) (hx : l[n]? = some x) : getI op x = some true ∧ (n = 0 ∨ x ∈ nbL m (l.getD (n - 1) 0)) := by
  unfold okAt at h
  rw [hx] at h
  simp only [Bool.and_eq_true, Bool.or_eq_true, beq_iff_eq, decide_eq_true_eq] at h
  refine ⟨?_, h.2⟩
  cases hg : getI op x with
  | none => rw [hg] at h; simp at h
  | some b => rw [hg] at h; simp at h; rw [h.1]
theorem reach_path {m : DMap} {op : List Bool} {src l : List Int} {a : Int} (h0 : l[0]? = some a) (ha : a ∈ src) (h : ∀ n, okAt m op l n = true) : ∀ (n : Nat) (x : Int), l[n]? = some x → reachN m op src n x
  | 0, x, hx => by
    rw [h0] at hx
    cases hx
    exact ⟨ha, (okAt_some (h 0) h0).1⟩
  | n + 1, x, hx => by
    have h1 := okAt_some (h (n + 1)) hx
    have hl := (List.getElem?_eq_some_iff.1 hx).1
    have hy : l[n]? = some (l.getD n 0) := by
      rw [List.getElem?_eq_getElem (show n < l.length by omega), List.getD_eq_getElem?_getD, List.getElem?_eq_getElem (show n < l.length by omega)]
      rfl
    refine ⟨_, reach_path h0 ha h n _ hy, ?_, h1.1⟩
    rcases h1.2 with e | e
    · omega
    · simpa using e
/-! the least of some -/
theorem fold_inv {α β : Type} (f : β → α → β) (Q : List α → β → Prop) (hs : ∀ pre x b, Q pre b → Q (pre ++ [x]) (f b x)) : ∀ (post pre : List α) (b : β), Q pre b → Q (pre ++ post) (post.foldl f b)
  | [], pre, b, h => by simpa using h
  | x :: r, pre, b, h => by
    have := fold_inv f Q hs r (pre ++ [x]) (f b x) (hs pre x b h)
    rw [List.append_assoc] at this
    exact this
/-- The least of those that p holds of, -1 if there is none. -/
def minW (p : Int → Bool) (l : List Int) : Int := l.foldl (fun best k => if p k && (decide (best < 0) || decide (k < best)) then k else best) (-1)
theorem minW_ok {p : Int → Bool} {l : List Int} (hl : ∀ k ∈ l, 0 ≤ k) (he : ∃ k ∈ l, p k = true) : minW p l ∈ l ∧ p (minW p l) = true ∧ ∀ k ∈ l, p k = true → minW p l ≤ k := by
  have key := fold_inv (fun best k => if p k && (decide (best < 0) || decide (k < best)) then k else best) (fun pre best => (∀ k ∈ pre, 0 ≤ k) → ((best = -1 ∧ ∀ k ∈ pre, p k = false) ∨ (0 ≤ best ∧ best ∈ pre ∧ p best = true ∧ ∀ k ∈ pre, p k = true → best ≤ k))) (fun pre x b ih hp => by
    have ih := ih fun k hk => hp k (List.mem_append_left _ hk)
    have hx := hp x (by simp)
    cases hpx : p x with
    | false =>
      simp only [Bool.false_and, Bool.false_eq_true, if_false]
      rcases ih with ⟨h1, h2⟩ | ⟨h1, h2, h3, h4⟩
      · refine .inl ⟨h1, fun k hk => ?_⟩
        rcases List.mem_append.1 hk with hk | hk
        · exact h2 k hk
        · rw [List.mem_singleton.1 hk]; exact hpx
      · refine .inr ⟨h1, List.mem_append_left _ h2, h3, fun k hk hk2 => ?_⟩
        rcases List.mem_append.1 hk with hk | hk
        · exact h4 k hk hk2
        · rw [List.mem_singleton.1 hk, hpx] at hk2; cases hk2
    | true =>
      simp only [Bool.true_and]
      rcases ih with ⟨h1, h2⟩ | ⟨h1, h2, h3, h4⟩
      · rw [if_pos (by simp; omega)]
        refine .inr ⟨hx, by simp, hpx, fun k hk hk2 => ?_⟩
        rcases List.mem_append.1 hk with hk | hk
        · rw [h2 k hk] at hk2; cases hk2
        · rw [List.mem_singleton.1 hk]; omega
      · by_cases hb : x < b
        · rw [if_pos (by simp; omega)]
          refine .inr ⟨hx, by simp, hpx, fun k hk hk2 => ?_⟩
          rcases List.mem_append.1 hk with hk | hk
          · have := h4 k hk hk2; omega
          · rw [List.mem_singleton.1 hk]; omega
        · rw [if_neg (by simp; omega)]
          refine .inr ⟨h1, List.mem_append_left _ h2, h3, fun k hk hk2 => ?_⟩
          rcases List.mem_append.1 hk with hk | hk
          · exact h4 k hk hk2
          · rw [List.mem_singleton.1 hk]; omega) l [] (-1) (fun _ => .inl ⟨rfl, fun k hk => (by cases hk)⟩)
  rw [List.nil_append] at key
  rcases key hl with ⟨_, h2⟩ | ⟨_, h2, h3, h4⟩
  · obtain ⟨k, hk, hp⟩ := he
    rw [h2 k hk] at hp
    cases hp
  · exact ⟨h2, h3, h4⟩
/-- The first of the sources that are least far. -/
def srcW (left : List Int) (l : List Int) : Int := l.foldl (fun best i => if decide (0 ≤ (getI left i).getD 0) && (decide (best < 0) || decide ((getI left i).getD 0 < (getI left best).getD 0)) then i else best) (-1)
theorem srcW_ok {left l : List Int} {n : Int} (hl : ∀ k ∈ l, 0 ≤ k) (hr : ∀ (i j : Nat) (x y : Int), i < j → l[i]? = some x → l[j]? = some y → x < y) (hn : 0 ≤ n) (hb : ∀ k ∈ l, 0 ≤ (getI left k).getD 0 → n ≤ (getI left k).getD 0) (he : ∃ k ∈ l, (getI left k).getD 0 = n) :
    srcW left l ∈ l ∧ (getI left (srcW left l)).getD 0 = n ∧ ∀ k ∈ l, (getI left k).getD 0 = n → srcW left l ≤ k := by
  have key := fold_inv (fun best i => if decide (0 ≤ (getI left i).getD 0) && (decide (best < 0) || decide ((getI left i).getD 0 < (getI left best).getD 0)) then i else best)
    (fun pre best => (∃ post, l = pre ++ post) → ((best = -1 ∧ ∀ k ∈ pre, (getI left k).getD 0 < 0) ∨ (0 ≤ best ∧ best ∈ pre ∧ 0 ≤ (getI left best).getD 0 ∧ (∀ k ∈ pre, 0 ≤ (getI left k).getD 0 → (getI left best).getD 0 ≤ (getI left k).getD 0) ∧ ∀ k ∈ pre, (getI left k).getD 0 = (getI left best).getD 0 → best ≤ k))) (fun pre x b ih hp => by
    obtain ⟨post, hp⟩ := hp
    have ih := ih ⟨x :: post, by simpa using hp⟩
    have hx := hl x (by rw [hp]; simp)
    have hlt : ∀ k ∈ pre, k < x := fun k hk => by
      obtain ⟨i, hi, hix⟩ := List.mem_iff_getElem.1 hk
      refine hr i pre.length k x hi ?_ ?_
      · rw [hp, List.append_assoc, List.getElem?_append_left hi, List.getElem?_eq_getElem hi, hix]
      · rw [hp]; simp
    by_cases h0 : 0 ≤ (getI left x).getD 0
    · rcases ih with ⟨h1, h2⟩ | ⟨h1, h2, h3, h4, h5⟩
      · rw [if_pos (by simp [h0]; omega)]
        refine .inr ⟨hx, by simp, h0, fun k hk hk2 => ?_, fun k hk hk2 => ?_⟩
        · rcases List.mem_append.1 hk with hk | hk
          · have := h2 k hk; omega
          · rw [List.mem_singleton.1 hk]; omega
        · rcases List.mem_append.1 hk with hk | hk
          · have := h2 k hk; omega
          · rw [List.mem_singleton.1 hk]; omega
      · by_cases hb : (getI left x).getD 0 < (getI left b).getD 0
        · rw [if_pos (by simp [h0, hb])]
          refine .inr ⟨hx, by simp, h0, fun k hk hk2 => ?_, fun k hk hk2 => ?_⟩
          · rcases List.mem_append.1 hk with hk | hk
            · have := h4 k hk hk2; omega
            · rw [List.mem_singleton.1 hk]; omega
          · rcases List.mem_append.1 hk with hk | hk
            · have := h4 k hk (by omega); omega
            · rw [List.mem_singleton.1 hk]; omega
        · rw [if_neg (by simp [hb]; omega)]
          refine .inr ⟨h1, List.mem_append_left _ h2, h3, fun k hk hk2 => ?_, fun k hk hk2 => ?_⟩
          · rcases List.mem_append.1 hk with hk | hk
            · exact h4 k hk hk2
            · rw [List.mem_singleton.1 hk]; omega
          · rcases List.mem_append.1 hk with hk | hk
            · exact h5 k hk hk2
            · rw [List.mem_singleton.1 hk]; have := hlt b h2; omega
    · rw [if_neg (by simp; omega)]
      rcases ih with ⟨h1, h2⟩ | ⟨h1, h2, h3, h4, h5⟩
      · refine .inl ⟨h1, fun k hk => ?_⟩
        rcases List.mem_append.1 hk with hk | hk
        · exact h2 k hk
        · rw [List.mem_singleton.1 hk]; omega
      · refine .inr ⟨h1, List.mem_append_left _ h2, h3, fun k hk hk2 => ?_, fun k hk hk2 => ?_⟩
        · rcases List.mem_append.1 hk with hk | hk
          · exact h4 k hk hk2
          · rw [List.mem_singleton.1 hk] at hk2; omega
        · rcases List.mem_append.1 hk with hk | hk
          · exact h5 k hk hk2
          · rw [List.mem_singleton.1 hk] at hk2; omega) l [] (-1) (fun _ => .inl ⟨rfl, fun k hk => (by cases hk)⟩)
  rw [List.nil_append] at key
  rcases key ⟨[], by simp⟩ with ⟨_, h2⟩ | ⟨_, h2, h3, h4, h5⟩
  · obtain ⟨k, hk, hp⟩ := he
    have := h2 k hk
    omega
  · obtain ⟨k, hk, hp⟩ := he
    have h6 := h4 k hk (by omega)
    have h7 := hb _ h2 h3
    have h8 : (getI left (srcW left l)).getD 0 = n := by unfold srcW; omega
    refine ⟨h2, h8, fun j hj hjn => h5 j hj ?_⟩
    unfold srcW at h8
    rw [hjn, h8]
/-- The first of so many. -/
def firstW (p : Nat → Bool) (n : Nat) : Int := (List.range n).foldl (fun best i => if p i && decide (best < 0) then (i : Int) else best) (-1)
theorem firstW_ok {p : Nat → Bool} {n : Nat} (he : ∃ k, k < n ∧ p k = true) : ∃ j : Nat, firstW p n = j ∧ j < n ∧ p j = true ∧ ∀ k, k < n → p k = true → j ≤ k := by
  have key : ∀ n, (firstW p n = -1 ∧ ∀ k, k < n → p k = false) ∨ ∃ j : Nat, firstW p n = j ∧ j < n ∧ p j = true ∧ ∀ k, k < n → p k = true → j ≤ k := by
    intro n
    induction n with
    | zero => exact .inl ⟨rfl, fun k hk => by omega⟩
    | succ n ih =>
      have hs : firstW p (n + 1) = if p n && decide (firstW p n < 0) then (n : Int) else firstW p n := by
        unfold firstW
        rw [List.range_succ, List.foldl_append]
        rfl
      rw [hs]
      rcases ih with ⟨h1, h2⟩ | ⟨j, h1, h2, h3, h4⟩
      · cases hp : p n with
        | false =>
          refine .inl ⟨by simpa using h1, fun k hk => ?_⟩
          by_cases hkn : k = n
          · rw [hkn]; exact hp
          · exact h2 k (by omega)
        | true =>
          refine .inr ⟨n, by rw [h1]; simp, by omega, hp, fun k hk hk2 => ?_⟩
          by_cases hkn : k = n
          · omega
          · rw [h2 k (by omega)] at hk2; cases hk2
      · refine .inr ⟨j, by rw [h1, if_neg (by simp)], by omega, h3, fun k hk hk2 => ?_⟩
        by_cases hkn : k = n
        · omega
        · exact h4 k (by omega) hk2
  rcases key n with ⟨_, h2⟩ | h
  · obtain ⟨k, hk, hp⟩ := he
    rw [h2 k hk] at hp
    cases hp
  · exact h
/-! the path of a supply -/
def nxtW (m : DMap) (left : List Int) (a : Int) : Int := minW (fun k => (getI left k).getD 0 == (getI left a).getD 0 - 1) (nbL m a)
def seqW (m : DMap) (left : List Int) (a : Int) : Nat → Int
  | 0 => a
  | t + 1 => nxtW m left (seqW m left a t)
def pathW (m : DMap) (left : List Int) (a : Int) (n : Nat) : List Int := (List.range (n + 1)).map (seqW m left a)
theorem getD_some {l : List Int} {k : Int} (h0 : 0 ≤ k) (h1 : k < l.length) : getI l k = some ((getI l k).getD 0) := by
  obtain ⟨x, hx⟩ := getI_ex (l := l) h0 h1
  rw [hx]
  rfl
theorem nb_area {m : DMap} {i k : Int} (h0 : 0 < m.Width) (h1 : 0 < m.Height) (hk : k ∈ nbL m i) : 0 ≤ k ∧ k < m.Width * m.Height := by
  obtain ⟨k0, d, _, rfl, _⟩ := nb_step hk
  exact ⟨k0, nextL_area h0 h1 i d⟩
/-- A unit in supply: what is told of its board and sources. -/
structure WayOk (m : DMap) (op : List Bool) (src : List Int) (a n : Int) : Prop where
  o : MapO m op
  h : 0 < m.Height
  s : ∀ k ∈ src, 0 ≤ k ∧ k < op.length
  r : ∀ (i j : Nat) (x y : Int), i < j → src[i]? = some x → src[j]? = some y → x < y
  f : getI (spreadL m op src) a = some n
  n0 : 0 ≤ n
def w0 (m : DMap) (op : List Bool) (src : List Int) (a : Int) : Int := srcW (spreadL m op [a]) src
def wS (m : DMap) (op : List Bool) (src : List Int) (a : Int) (t : Nat) : Int := seqW m (spreadL m op [a]) (w0 m op src a) t
theorem WayOk.start {m : DMap} {op : List Bool} {src : List Int} {a n : Int} (w : WayOk m op src a n) : w0 m op src a ∈ src ∧ getI (spreadL m op [a]) (w0 m op src a) = some n ∧ ∀ k ∈ src, (getI (spreadL m op [a]) k).getD 0 = n → w0 m op src a ≤ k := by
  have hk : ∀ k ∈ src, getI (spreadL m op [a]) k = some ((getI (spreadL m op [a]) k).getD 0) := fun k hk => getD_some (w.s k hk).1 (by rw [spread_len]; exact (w.s k hk).2)
  have := srcW_ok (left := spreadL m op [a]) (l := src) (n := n) (fun k hk => (w.s k hk).1) w.r w.n0 (fun k h1 h2 => by
    have h3 := hk k h1
    have ho := far_open h3 h2
    obtain ⟨q, q1, q2, q3⟩ := far_sum w.o (far_zero (m := m) h1 ho) (by omega) h3 h2
    rw [w.f] at q1
    cases q1
    omega) (by
    obtain ⟨s, h1, h2⟩ := far_start w.o w.f w.n0
    exact ⟨s, h1, by rw [h2]; rfl⟩)
  refine ⟨this.1, ?_, this.2.2⟩
  have h1 := hk _ this.1
  rw [this.2.1] at h1
  exact h1
theorem WayOk.step {m : DMap} {op : List Bool} {src : List Int} {a n : Int} (w : WayOk m op src a n) {j : Int} {t : Nat} (ht : (t : Int) < n) (h1 : getI (spreadL m op [a]) j = some (n - t)) (h2 : getI (spreadL m op src) j = some (t : Int)) :
    nxtW m (spreadL m op [a]) j ∈ nbL m j ∧ getI (spreadL m op [a]) (nxtW m (spreadL m op [a]) j) = some (n - (t + 1 : Nat)) ∧ getI (spreadL m op src) (nxtW m (spreadL m op [a]) j) = some ((t + 1 : Nat) : Int)
      ∧ ∀ k ∈ nbL m j, (getI (spreadL m op [a]) k).getD 0 = n - (t + 1 : Nat) → nxtW m (spreadL m op [a]) j ≤ k := by
  obtain ⟨c, hc, hcv⟩ := far_next w.o h1 (by omega)
  have hm := minW_ok (p := fun k => (getI (spreadL m op [a]) k).getD 0 == (getI (spreadL m op [a]) j).getD 0 - 1) (l := nbL m j) (fun k hk => (nb_area w.o.w w.h hk).1) ⟨c, hc, by rw [hcv, h1]; simp⟩
  obtain ⟨m1, m2, m3⟩ := hm
  change nxtW m (spreadL m op [a]) j ∈ nbL m j at m1
  have ha := nb_area w.o.w w.h m1
  have hn := w.o.n
  have hv := getD_some (l := spreadL m op [a]) ha.1 (by rw [spread_len]; omega)
  have m2 : (getI (spreadL m op [a]) (nxtW m (spreadL m op [a]) j)).getD 0 = (getI (spreadL m op [a]) j).getD 0 - 1 := eq_of_beq m2
  rw [h1] at m2
  have m2 : (getI (spreadL m op [a]) (nxtW m (spreadL m op [a]) j)).getD 0 = n - (t + 1 : Nat) := by rw [m2]; simp only [Option.getD_some]; omega
  rw [m2] at hv
  have ho := far_open hv (by omega)
  obtain ⟨v, v1, v2, v3⟩ := far_edge h2 (by omega) m1 ho
  obtain ⟨q, q1, q2, q3⟩ := far_sum w.o v1 v2 hv (by omega)
  rw [w.f] at q1
  cases q1
  have : v = ((t + 1 : Nat) : Int) := by omega
  refine ⟨m1, hv, this ▸ v1, fun k hk hk2 => m3 k hk ?_⟩
  rw [h1, hk2]
  simp only [Option.getD_some, beq_iff_eq]
  omega
theorem WayOk.seq {m : DMap} {op : List Bool} {src : List Int} {a n : Int} (w : WayOk m op src a n) : ∀ t : Nat, (t : Int) ≤ n → getI (spreadL m op [a]) (wS m op src a t) = some (n - t) ∧ getI (spreadL m op src) (wS m op src a t) = some (t : Int)
  | 0, _ => by
    obtain ⟨h1, h2, _⟩ := w.start
    refine ⟨by show getI _ (w0 m op src a) = _; rw [h2]; simp, ?_⟩
    exact far_zero h1 (far_open h2 w.n0)
  | t + 1, ht => by
    obtain ⟨h1, h2⟩ := w.seq t (by omega)
    obtain ⟨_, s2, s3, _⟩ := w.step (by omega) h1 h2
    exact ⟨s2, s3⟩
theorem WayOk.nb {m : DMap} {op : List Bool} {src : List Int} {a n : Int} (w : WayOk m op src a n) {t : Nat} (ht : (t : Int) < n) : wS m op src a (t + 1) ∈ nbL m (wS m op src a t) := by
  obtain ⟨h1, h2⟩ := w.seq t (by omega)
  exact (w.step ht h1 h2).1
theorem WayOk.self {m : DMap} {op : List Bool} {src : List Int} {a n : Int} (w : WayOk m op src a n) : getI (spreadL m op [a]) a = some 0 := far_zero (by simp) (far_open w.f w.n0)
theorem WayOk.more {m : DMap} {op : List Bool} {src : List Int} {a n : Int} (w : WayOk m op src a n) {t : Nat} (ht : (t : Int) < n) : wS m op src a t ≠ a := fun h => by
  have h1 := (w.seq t (by omega)).1
  rw [h, w.self] at h1
  have := Option.some.inj h1
  omega
theorem WayOk.end_ {m : DMap} {op : List Bool} {src : List Int} {a n : Int} (w : WayOk m op src a n) : wS m op src a n.toNat = a := by
  have hn := w.n0
  have h1 := (w.seq n.toNat (by omega)).1
  rw [show n - (n.toNat : Int) = 0 by omega] at h1
  simpa using zero_src h1
/-- The hexes of the layer 't'. -/
def layB (m : DMap) (far back : List Int) (n : Int) (prev : Int) (t : Nat) (i : Nat) : Bool :=
  decide ((getI far i).getD 0 = (t : Int)) && (decide ((getI back i).getD 0 = n - t) && (t == 0 || decide ((i : Int) ∈ nbL m prev)))
theorem WayOk.lay {m : DMap} {op : List Bool} {src : List Int} {a n : Int} (w : WayOk m op src a n) (p : Int) : ∀ t : Nat, (t : Int) ≤ n → firstW (layB m (spreadL m op src) (spreadL m op [a]) n (if t = 0 then p else wS m op src a (t - 1)) t) op.length = wS m op src a t := by
  intro t ht
  obtain ⟨h1, h2⟩ := w.seq t ht
  obtain ⟨z, hz, _, hz2⟩ := getI_some h1
  rw [spread_len] at hz2
  rw [hz] at h1 h2
  have hnb : t = 0 ∨ (z : Int) ∈ nbL m (wS m op src a (t - 1)) := by
    cases t with
    | zero => exact .inl rfl
    | succ t => exact .inr (by have := w.nb (t := t) (by omega); rw [hz] at this; exact this)
  have hp : layB m (spreadL m op src) (spreadL m op [a]) n (if t = 0 then p else wS m op src a (t - 1)) t z = true := by
    unfold layB
    rw [h1, h2]
    simp only [Option.getD_some, decide_true, Bool.true_and, Bool.or_eq_true, beq_iff_eq, decide_eq_true_eq]
    rcases hnb with h | h
    · exact .inl h
    · by_cases h0 : t = 0
      · exact .inl h0
      · exact .inr (by rwa [if_neg h0])
  obtain ⟨j, hj, hjl, hjp, hmin⟩ := firstW_ok ⟨z, hz2, hp⟩
  rw [hj, hz]
  have hle := hmin z hz2 hp
  unfold layB at hjp
  simp only [Bool.and_eq_true, Bool.or_eq_true, beq_iff_eq, decide_eq_true_eq] at hjp
  obtain ⟨j1, j2, j3⟩ := hjp
  have f1 := getD_some (l := spreadL m op src) (k := j) (by omega) (by rw [spread_len]; omega)
  have f2 := getD_some (l := spreadL m op [a]) (k := j) (by omega) (by rw [spread_len]; omega)
  have hge : (z : Int) ≤ j := by
    cases t with
    | zero =>
      rw [j1] at f1
      have := w.start.2.2 j (zero_src f1) (by rw [j2]; simp)
      have e : wS m op src a 0 = w0 m op src a := rfl
      omega
    | succ t =>
      obtain ⟨q1, q2⟩ := w.seq t (by omega)
      have hj3 : (j : Int) ∈ nbL m (wS m op src a t) := by
        rcases j3 with h | h
        · omega
        · simpa using h
      have := (w.step (by omega) q1 q2).2.2.2 j hj3 j2
      have e : wS m op src a (t + 1) = nxtW m (spreadL m op [a]) (wS m op src a t) := rfl
      omega
  omega
def wayW (m : DMap) (op : List Bool) (src : List Int) (a n : Int) : List Int := pathW m (spreadL m op [a]) (w0 m op src a) n.toNat
theorem wayW_get {m : DMap} {op : List Bool} {src : List Int} {a n : Int} {t : Nat} (ht : t ≤ n.toNat) : (wayW m op src a n)[t]? = some (wS m op src a t) := by
  unfold wayW pathW
  rw [List.getElem?_map, List.getElem?_range (by omega)]
  rfl
theorem wayW_len (m : DMap) (op : List Bool) (src : List Int) (a n : Int) : (wayW m op src a n).length = n.toNat + 1 := by simp [wayW, pathW]
theorem WayOk.ok {m : DMap} {op : List Bool} {src : List Int} {a n : Int} (w : WayOk m op src a n) (t : Nat) : okAt m op (wayW m op src a n) t = true := by
  have hn := w.n0
  unfold okAt
  by_cases ht : t ≤ n.toNat
  · rw [wayW_get ht]
    have h1 := (w.seq t (by omega)).1
    dsimp only
    rw [far_open h1 (by omega)]
    cases t with
    | zero => rfl
    | succ t =>
      have := w.nb (t := t) (by omega)
      have hg : (wayW m op src a n).getD t 0 = wS m op src a t := by rw [List.getD_eq_getElem?_getD, wayW_get (by omega)]; rfl
      rw [show t + 1 - 1 = t by omega, hg]
      simp [this]
  · rw [List.getElem?_eq_none (by rw [wayW_len]; omega)]
theorem getI_setB {l : List Bool} {k i : Int} {z : Bool} (h0 : 0 ≤ k) (h1 : k < l.length) : getI (l.set k.toNat z) i = if i = k then some z else getI l i := by
  unfold getI
  by_cases hi : 0 ≤ i
  · rw [if_pos hi, if_pos hi, List.getElem?_set]
    by_cases hik : i = k
    · subst hik
      rw [if_pos rfl, if_pos rfl, if_pos (by omega)]
    · rw [if_neg (by omega), if_neg hik]
  · rw [if_neg hi, if_neg hi, if_neg (by omega)]
/-- Without a hex that is off a path, there is still the path. -/
theorem WayOk.off {m : DMap} {op : List Bool} {src : List Int} {a n : Int} (w : WayOk m op src a n) {i : Int} (h0 : 0 ≤ i) (h1 : i < op.length) (hi : i ∉ wayW m op src a n) : ∃ v, getI (spreadL m (op.set i.toNat false) src) a = some v ∧ 0 ≤ v ∧ v ≤ n := by
  have hn := w.n0
  have hr : ∀ t : Nat, (t : Int) ≤ n → reachN m (op.set i.toNat false) src t (wS m op src a t) := by
    intro t
    have hop : ∀ t : Nat, (t : Int) ≤ n → getI (op.set i.toNat false) (wS m op src a t) = some true := fun t ht => by
      rw [getI_setB h0 h1, if_neg (fun e => hi (by rw [← e]; exact List.mem_of_getElem? (wayW_get (by omega))))]
      exact far_open (w.seq t ht).1 (by omega)
    induction t with
    | zero => exact fun ht => ⟨w.start.1, hop 0 ht⟩
    | succ t ih => exact fun ht => ⟨_, ih (by omega), w.nb (by omega), hop (t + 1) ht⟩
  have := hr n.toNat (by omega)
  rw [w.end_] at this
  obtain ⟨v, v1, v2, v3⟩ := spread_le this
  exact ⟨v, v1, v2, by omega⟩
/-- Without its own hex, there is no way to it. -/
theorem own_cut {m : DMap} {op : List Bool} {src : List Int} {a : Int} (h0 : 0 ≤ a) (h1 : a < op.length) {v : Int} (h : getI (spreadL m (op.set a.toNat false) src) a = some v) : v < 0 := by
  by_cases hv : 0 ≤ v
  · have := far_open h hv
    rw [getI_setB h0 h1, if_pos rfl] at this
    cases this
  · omega
/-! a supply path, checked -/
theorem alli_loop2 {α γ : Type} (L : Int → Option γ) (l : List α) (p : Nat → α → Bool) (A Z : Option γ) (nil : OLe A (L l.length))
    (step : ∀ (i : Nat) x, l[i]? = some x → (i : Int) < l.length → (∀ j y, j < i → l[j]? = some y → p j y = true) → OLe (if p i x then L ((i : Int) + 1) else Z) (L i)) : OLe (if alli p 0 l then A else Z) (L 0) := by
  have key : ∀ (post pre : List α), l = pre ++ post → (∀ j y, j < pre.length → l[j]? = some y → p j y = true) → OLe (if alli p pre.length post then A else Z) (L pre.length) := by
    intro post
    induction post with
    | nil => intro pre h hp; rw [List.append_nil] at h; subst h; simpa [alli] using nil
    | cons x post ih =>
      intro pre h hp r hr
      refine step _ x (mid_get h) (mid_lt h) hp r ?_
      unfold alli at hr
      cases hpx : p pre.length x with
      | true =>
        have := @ih (pre ++ [x]) (by simpa using h) (fun j y hj hy => by
          simp only [List.length_append, List.length_cons, List.length_nil] at hj
          by_cases e : j = pre.length
          · subst e
            rw [mid_get h] at hy
            cases hy
            exact hpx
          · exact hp j y (by omega) hy)
        rw [if_pos rfl]
        simp only [List.length_append, List.length_cons, List.length_nil] at this
        refine this r ?_
        simpa [hpx] using hr
      | false => simpa [hpx] using hr
  exact key l [] rfl (fun j y hj => by simp at hj)
theorem alli_of {α : Type} {p : Nat → α → Bool} : ∀ {l : List α} {n : Nat}, (∀ i x, l[i]? = some x → p (n + i) x = true) → alli p n l = true
  | [], _, _ => rfl
  | x :: r, n, h => by
    unfold alli
    rw [Bool.and_eq_true]
    exact ⟨h 0 x rfl, alli_of fun i y hy => by have := h (i + 1) y (by simpa using hy); rwa [show n + (i + 1) = n + 1 + i by omega] at this⟩
theorem rising_tail {a : Int} {l : List Int} (h : risingB (a :: l) = true) : risingB l = true ∧ ∀ x ∈ l, a < x := by
  induction l generalizing a with
  | nil => exact ⟨rfl, fun x hx => (by cases hx)⟩
  | cons b l ih =>
    unfold risingB at h
    rw [Bool.and_eq_true, decide_eq_true_eq] at h
    refine ⟨h.2, fun x hx => ?_⟩
    rcases List.mem_cons.1 hx with e | hx
    · omega
    · have := (ih h.2).2 x hx
      omega
theorem rising_lt : ∀ {l : List Int}, risingB l = true → ∀ (i j : Nat) (x y : Int), i < j → l[i]? = some x → l[j]? = some y → x < y
  | [], _, i, j, x, y, _, hx, _ => by simp at hx
  | a :: l, h, 0, j + 1, x, y, _, hx, hy => by
    simp at hx hy
    subst hx
    exact (rising_tail h).2 y (List.mem_of_getElem? hy)
  | a :: l, h, i + 1, j + 1, x, y, hij, hx, hy => rising_lt (rising_tail h).1 i j x y (by omega) (by simpa using hx) (by simpa using hy)
def okX (m : DMap) (op : List Bool) (l : List Int) (i : Nat) (x : Int) : Bool := (getI op x).getD false && (i == 0 || decide (x ∈ nbL m (l.getD (i - 1) 0)))
theorem okX_at {m : DMap} {op : List Bool} {l : List Int} : alli (okX m op l) 0 l = true ↔ ∀ n, okAt m op l n = true := by
  constructor
  · intro h n
    unfold okAt
    cases hx : l[n]? with
    | none => rfl
    | some x =>
      have := alli_get h n x hx
      rw [Nat.zero_add] at this
      exact this
  · intro h
    refine alli_of fun i x hx => ?_
    have := h i
    unfold okAt at this
    rw [hx] at this
    rw [Nat.zero_add]
    exact this
def supB (b : DBoard) (s : DState) (k : Int) (src : List Int) : Bool := (gameB b s && inB 0 ((s.Units.length : Int) - 1) k) && srcB b src
theorem c_impl_isSupply (b : DBoard) (s : DState) (k : Int) (src : List Int) (hn : BoardN b) (hs : s.Units.length < 1000000000000) : A_impl_isSupply b s k src = some (en_impl_isSupply (supB b s k src)) := by
  apply e_impl_isSupply
  unfold P_impl_isSupply supB
  rw [k_impl_hasUnit _ _ _ (c_impl_hasUnit _ _ _ hn hs)]
  cases gameB b s && inB 0 ((s.Units.length : Int) - 1) k with
  | false => rfl
  | true =>
    rw [if_pos rfl, k_impl_areSources _ _ (c_impl_areSources _ _ hn)]
    rfl
theorem c_spec_jInput (b : DBoard) (s : DState) (k : Int) (src : List Int) (hn : BoardN b) (hs : s.Units.length < 1000000000000) : A_spec_jInput b s k src = some (en_spec_jInput (supB b s k src)) := by
  apply e_spec_jInput
  unfold P_spec_jInput supB
  rw [k_spec_sHas _ _ _ (c_spec_sHas _ _ _ hn hs)]
  cases hg : gameB b s && inB 0 ((s.Units.length : Int) - 1) k with
  | false => rfl
  | true =>
    rw [Bool.and_eq_true] at hg
    rw [if_pos rfl, k_spec_jSources _ _ (c_spec_jSources _ _ (StateG.ofB hg.1 hn).bg)]
    rfl
structure SupG (b : DBoard) (s : DState) (k : Int) (src : List Int) (u : DUnit) : Prop where
  g : StateG b s
  q : srcB b src = true
  hu : getI s.Units k = some u
  m : u ∈ s.Units
theorem SupG.of {b : DBoard} {s : DState} {k : Int} {src : List Int} (h : supB b s k src = true) (hn : BoardN b) : ∃ u, SupG b s k src u := by
  unfold supB at h
  rw [Bool.and_eq_true, Bool.and_eq_true, inB_iff] at h
  obtain ⟨⟨hg, h0, h1⟩, hq⟩ := h
  obtain ⟨u, hu⟩ := getI_ex (l := s.Units) h0 (by omega)
  obtain ⟨_, _, hx, _⟩ := getI_some hu
  exact ⟨u, StateG.ofB hg hn, hq, hu, mem_of_get hx⟩
abbrev opL (b : DBoard) (s : DState) (u : DUnit) : List Bool := openL b s.Units u.Side u.Kind
theorem op_len (b : DBoard) (us : List DUnit) (side kind : Int) : (openL b us side kind).length = b.Map.Terrain.length := by unfold openL; simp
theorem SupG.mo {b : DBoard} {s : DState} {k : Int} {src : List Int} {u : DUnit} (h : SupG b s k src u) (side kind : Int) : MapO b.Map (openL b s.Units side kind) := ⟨h.g.bg.w0, by rw [op_len]; exact (area_b h.g.bg).1⟩
def headI (l : List Int) : Int := l.getD 0 0
def lastI (l : List Int) : Int := l.getD (l.length - 1) 0
def chkL (b : DBoard) (s : DState) (u : DUnit) (src path : List Int) : Bool :=
  decide (0 ≤ u.At) && (decide (path ≠ []) && (decide ((path.length : Int) ≤ b.Rules.Supply + 1) && (decide (headI path ∈ src) && ((lastI path == u.At) && alli (okX b.Map (opL b s u) path) 0 path))))
theorem sup_small {b : DBoard} (g : BoardG b) : 0 ≤ b.Rules.Supply ∧ b.Rules.Supply ≤ 20 := by
  have h := g.ok
  unfold boardB rulesB restB at h
  simp only [Bool.and_eq_true, inB_iff] at h
  omega
theorem getD_at {α : Type} {l : List α} {n : Nat} (d : α) (h : n < l.length) : l[n]? = some (l.getD n d) := by
  rw [List.getElem?_eq_getElem h, List.getD_eq_getElem?_getD, List.getElem?_eq_getElem h]
  rfl
theorem okX_area {b : DBoard} {s : DState} {u : DUnit} {l : List Int} {i : Nat} {x : Int} (h : okX b.Map (opL b s u) l i x = true) : getI (opL b s u) x = some true ∧ 0 ≤ x ∧ x < b.Map.Terrain.length := by
  unfold okX at h
  rw [Bool.and_eq_true] at h
  have ho : getI (opL b s u) x = some true := by
    cases hg : getI (opL b s u) x with
    | none => rw [hg] at h; simp at h
    | some v => rw [hg] at h; simp at h; rw [h.1]
  obtain ⟨n, e, _, hl⟩ := getI_some ho
  rw [op_len] at hl
  exact ⟨ho, by omega, by omega⟩
theorem hexL_b {b : DBoard} (g : BoardG b) {i : Int} (h0 : 0 ≤ i) (h1 : i < b.Map.Terrain.length) : hexB (hexL b.Map i) := by
  have ha := area_b g
  have hw := g.w0
  have h2 := tmod_b g.s.b i
  have h3 := Int.natAbs_tdiv_le_natAbs i b.Map.Width
  unfold hexB hexL
  dsimp only
  omega
theorem l_impl_CheckSupplyPath_L8 (b : DBoard) (s : DState) (k : Int) (src path : List Int) (u : DUnit) (h : SupG b s k src u) (hp : path.length ≤ 100) :
    L_impl_CheckSupplyPath_L8 (opL b s u) b path path path.length 0 = some (en_impl_CheckSupplyPath (alli (okX b.Map (opL b s u) path) 0 path, true)) := by
  have ha := area_b h.g.bg
  have hw := h.g.bg.w0
  refine (alli_loop2 (fun i => L_impl_CheckSupplyPath_L8 (opL b s u) b path path path.length i) path (okX b.Map (opL b s u) path) (some (en_impl_CheckSupplyPath (true, true))) (some (en_impl_CheckSupplyPath (false, true))) ?_ (fun i x hx hi hpre => ?_)) _ ?_
  · intro _ hr
    apply e_impl_CheckSupplyPath_L8
    unfold P_impl_CheckSupplyPath_L8
    rw [if_neg (by simp)]
    exact hr
  · intro r hr
    apply e_impl_CheckSupplyPath_L8
    unfold P_impl_CheckSupplyPath_L8
    rw [if_pos (by simpa using hi), ixA_at sl_cI rfl hx, k_impl_sizeOf _ (c_impl_sizeOf _), k_impl_isIndex _ _ (c_impl_isIndex _ _ (by omega) (by omega))]
    unfold okX at hr
    cases hb : inB 0 ((b.Map.Terrain.length : Int) - 1) x with
    | false =>
      have hn : getI (opL b s u) x = none := by
        cases hg : getI (opL b s u) x with
        | none => rfl
        | some v =>
          obtain ⟨n, e, _, hl⟩ := getI_some hg
          rw [op_len] at hl
          have : inB 0 ((b.Map.Terrain.length : Int) - 1) x = true := by rw [inB_iff]; omega
          rw [hb] at this
          cases this
      rw [hn] at hr
      rw [if_pos (by simp)]
      simpa [en_impl_CheckSupplyPath] using hr
    | true =>
      rw [inB_iff] at hb
      obtain ⟨o, ho⟩ := getI_ex (l := opL b s u) hb.1 (by rw [op_len]; omega)
      obtain ⟨j, e, hj, hjl⟩ := getI_some ho
      rw [ho] at hr
      rw [if_neg (by simp), oxA_at rt_cB e hjl]
      refine (ld_at (E := tB) rfl rfl ok_cB (fun _ => rfl) (l := opL b s u) rfl rfl hj _).trans ?_
      cases o with
      | false =>
        rw [if_pos (by simp)]
        simpa [en_impl_CheckSupplyPath] using hr
      | true =>
        rw [if_neg (by simp)]
        by_cases h0 : i = 0
        · subst h0
          rw [if_neg (by simp), wrap_id (by omega) (by omega)]
          simpa using hr
        · have hy : path[i - 1]? = some (path.getD (i - 1) 0) := getD_at 0 (by omega)
          have hpr := okX_area (hpre (i - 1) _ (by omega) hy)
          rw [if_pos (by rw [decide_eq_true_eq]; omega), wrap_id (n := (i : Int) - 1) (by omega) (by omega), ixA_at sl_cI (n := i - 1) (by omega) hy, k_impl_hexOf _ _ (c_impl_hexOf _ _ h.g.bg.s.b (by unfold sm; omega)), k_impl_hexOf _ _ (c_impl_hexOf _ _ h.g.bg.s.b (by unfold sm; omega)),
            k_impl_distance _ _ (c_impl_distance _ _ (hexL_b h.g.bg hpr.2.1 hpr.2.2) (hexL_b h.g.bg hb.1 (by omega)))]
          by_cases hd : distL (hexL b.Map (path.getD (i - 1) 0)) (hexL b.Map x) = 1
          · have := (dist_one hw hb.1 (by omega)).1 hd
            rw [if_pos (by rw [decide_eq_true this]; simp)] at hr
            rw [if_neg (by rw [hd]; decide), wrap_id (by omega) (by omega)]
            exact hr
          · have : x ∉ nbL b.Map (path.getD (i - 1) 0) := fun hm => hd ((dist_one hw hb.1 (by omega)).2 hm)
            rw [if_pos (by rw [bne_iff_ne]; exact hd)]
            simp only [Option.getD_some, Bool.true_and, show (i == 0) = false from by simpa using h0, Bool.false_or, this, decide_false, Bool.false_eq_true, if_false] at hr
            exact hr
  · cases alli (okX b.Map (opL b s u) path) 0 path <;> rfl
theorem c_impl_CheckSupplyPath (b : DBoard) (s : DState) (k : Int) (src path : List Int) (u : DUnit) (h : SupG b s k src u) (hn : BoardN b) (hs : s.Units.length < 1000000000000) (hg : supB b s k src = true) (hp : path.length ≤ 100) :
    A_impl_CheckSupplyPath b s k src path = some (en_impl_CheckSupplyPath (chkL b s u src path, true)) := by
  apply e_impl_CheckSupplyPath
  unfold P_impl_CheckSupplyPath chkL
  have hsu := sup_small h.g.bg
  have hk := unit_kind (h.g.u u h.m)
  have hq := h.q
  unfold srcB at hq
  simp only [Bool.and_eq_true, decide_eq_true_eq] at hq
  rw [k_impl_isSupply _ _ _ _ (c_impl_isSupply _ _ _ _ hn hs), hg, if_neg (by simp), ixA_get sl_cUnit _ _ h.hu]
  by_cases h0 : u.At < 0
  · rw [if_pos (by simpa using h0)]
    simp [show ¬ 0 ≤ u.At by omega, en_impl_CheckSupplyPath]
  · rw [if_neg (by simpa using h0)]
    cases path with
    | nil => simp [en_impl_CheckSupplyPath]
    | cons a l =>
      rw [if_neg (by simp; omega), wrap_id (by omega) (by omega)]
      by_cases h1 : b.Rules.Supply + 1 < ((a :: l).length : Int)
      · rw [if_pos (by simpa using h1)]
        simp only [List.length_cons] at h1
        simp [show ¬ (l.length : Int) ≤ b.Rules.Supply by omega, en_impl_CheckSupplyPath]
      · rw [if_neg (by simpa using h1), ixA_get sl_cI (a :: l) 0 (x := a) rfl, k_slices_Contains_int _ _ (c_slices_Contains_int _ _ (by omega))]
        by_cases h2 : a ∈ src
        · rw [if_neg (by simpa using h2), wrap_id (by simp only [List.length_cons]; omega) (by simp only [List.length_cons] at hp ⊢; omega), ixA_at sl_cI (n := (a :: l).length - 1) (x := lastI (a :: l)) (by simp) (getD_at 0 (by simp))]
          by_cases h3 : lastI (a :: l) = u.At
          · rw [if_neg (by simp [h3]), k_impl_openFor _ _ _ _ (c_impl_openFor _ _ _ _ h.g (unit_side (h.g.u u h.m)) hk.1 hk.2), l_impl_CheckSupplyPath_L8 b s k src (a :: l) u h hp]
            have e1 : decide (0 ≤ u.At) = true := by simp; omega
            have e2 : decide (((a :: l).length : Int) ≤ b.Rules.Supply + 1) = true := by rw [decide_eq_true_eq]; omega
            have e3 : decide (headI (a :: l) ∈ src) = true := by simpa [headI] using h2
            rw [e1, e2, e3, beq_iff_eq.2 h3]
            simp
          · rw [if_pos (by simpa using h3)]
            simp [h3, en_impl_CheckSupplyPath]
        · rw [if_pos (by simpa using h2)]
          simp [headI, h2, en_impl_CheckSupplyPath]
/-! the same, as the reference tells it; the path itself -/
theorem any_nb {m : DMap} {p x : Int} (h : 0 ≤ x) : (dl.any fun e => nextL m p e == x) = decide (x ∈ nbL m p) := by
  rw [Bool.eq_iff_iff, List.any_eq_true, decide_eq_true_eq]
  unfold nbL
  rw [List.mem_filter, List.mem_map]
  constructor
  · rintro ⟨e, he, h1⟩
    rw [beq_iff_eq] at h1
    exact ⟨⟨e, he, h1⟩, by simpa using h⟩
  · rintro ⟨⟨e, he, h1⟩, _⟩
    exact ⟨e, he, by rw [beq_iff_eq]; exact h1⟩
theorem drop_dl {d : Nat} (h : d < 6) : dl.drop d = (d : Int) :: dl.drop (d + 1) := by
  have : ∀ d < 6, dl.drop d = (d : Int) :: dl.drop (d + 1) := by decide
  exact this d h
theorem c_spec_jUnit (b : DBoard) (s : DState) (k : Int) (src : List Int) (u : DUnit) (h : SupG b s k src u) : A_spec_jUnit b s k src = some (en_spec_jUnit (opL b s u, spreadL b.Map (opL b s u) src)) := by
  apply e_spec_jUnit
  unfold P_spec_jUnit
  have hk := unit_kind (h.g.u u h.m)
  rw [ixA_get sl_cUnit _ _ h.hu, k_spec_jOpen _ _ _ _ (c_spec_jOpen _ _ _ _ h.g (unit_side (h.g.u u h.m)) hk.1 hk.2), k_spec_jFar _ _ _ (c_spec_jFar _ _ _ (src_ok h.g.bg h.q s.Units u.Side u.Kind))]
  rfl
theorem l_spec_CheckSupplyPath_L12 (b : DBoard) (g : BoardG b) (path : List Int) (op : List Bool) (i : Nat) (hi0 : i ≠ 0) (hi : i < path.length) (hp : path.length ≤ 100) (p : Int) (hpp : path[i - 1]? = some p) (hps : sm p) (x : Int) (o : Bool) (ho : getI op x = some o) :
    ∀ (f d : Nat) (near : Bool), d + f = 6 → OLe (if (o && (near || (dl.drop d).any fun e => nextL b.Map p e == x)) = true then L_spec_CheckSupplyPath_L8 b path op path path.length ((i : Int) + 1) else some (en_spec_CheckSupplyPath (false, true)))
      (L_spec_CheckSupplyPath_L12 b path op i x near d path path.length i) := by
  intro f
  induction f with
  | zero =>
    intro d near hd r hr
    obtain rfl : d = 6 := by omega
    apply e_spec_CheckSupplyPath_L12
    unfold P_spec_CheckSupplyPath_L12
    rw [if_neg (by simp), ixA_get sl_cB _ _ ho, wrap_id (by omega) (by omega)]
    cases o <;> cases near <;> simpa [dl, en_spec_CheckSupplyPath] using hr
  | succ f ih =>
    intro d near hd r hr
    apply e_spec_CheckSupplyPath_L12
    unfold P_spec_CheckSupplyPath_L12
    rw [if_pos (by rw [decide_eq_true_eq]; omega), if_pos (by rw [decide_eq_true_eq]; omega), wrap_id (n := (d : Int) + 1) (by omega) (by omega)]
    cases near with
    | true =>
      rw [if_pos rfl]
      refine ih (d + 1) true (by omega) r ?_
      simpa using hr
    | false =>
      rw [if_neg (by simp), wrap_id (n := (i : Int) - 1) (by omega) (by omega), ixA_at sl_cI (n := i - 1) (by omega) hpp, k_spec_mNext _ _ _ (c_spec_mNext _ _ _ g.s.b hps (by omega) (by omega))]
      refine ih (d + 1) (nextL b.Map p d == x) (by omega) r ?_
      rw [drop_dl (by omega), List.any_cons] at hr
      simpa using hr
theorem l_spec_CheckSupplyPath_L8 (b : DBoard) (s : DState) (k : Int) (src path : List Int) (u : DUnit) (h : SupG b s k src u) (hp : path.length ≤ 100) (hr : path.all (inB 0 ((b.Map.Terrain.length : Int) - 1)) = true) :
    L_spec_CheckSupplyPath_L8 b path (opL b s u) path path.length 0 = some (en_spec_CheckSupplyPath (alli (okX b.Map (opL b s u) path) 0 path, true)) := by
  have ha := area_b h.g.bg
  rw [List.all_eq_true] at hr
  refine (alli_loop2 (fun i => L_spec_CheckSupplyPath_L8 b path (opL b s u) path path.length i) path (okX b.Map (opL b s u) path) (some (en_spec_CheckSupplyPath (true, true))) (some (en_spec_CheckSupplyPath (false, true))) ?_ (fun i x hx hi hpre => ?_)) _ ?_
  · intro _ hr
    apply e_spec_CheckSupplyPath_L8
    unfold P_spec_CheckSupplyPath_L8
    rw [if_neg (by simp)]
    exact hr
  · intro r hr2
    apply e_spec_CheckSupplyPath_L8
    unfold P_spec_CheckSupplyPath_L8
    have hxr := hr x (mem_of_get hx)
    rw [inB_iff] at hxr
    obtain ⟨o, ho⟩ := getI_ex (l := opL b s u) hxr.1 (by rw [op_len]; omega)
    rw [if_pos (by simpa using hi), ixA_at sl_cI rfl hx]
    unfold okX at hr2
    rw [ho] at hr2
    by_cases h0 : i = 0
    · subst h0
      apply e_spec_CheckSupplyPath_L12
      unfold P_spec_CheckSupplyPath_L12
      rw [if_pos (by simp), if_neg (by simp), ixA_get sl_cB _ _ ho, wrap_id (by omega) (by omega)]
      cases o <;> simpa [en_spec_CheckSupplyPath] using hr2
    · have hy : path[i - 1]? = some (path.getD (i - 1) 0) := getD_at 0 (by omega)
      have hyr := hr _ (mem_of_get hy)
      rw [inB_iff] at hyr
      have := l_spec_CheckSupplyPath_L12 b h.g.bg path (opL b s u) i h0 (by omega) hp _ hy (by unfold sm; omega) x o ho 6 0 (i == 0) rfl r
      have e0 : ((i : Int) == 0) = (i == 0) := by rw [Bool.eq_iff_iff, beq_iff_eq, beq_iff_eq]; omega
      rw [e0]
      refine this ?_
      rw [List.drop_zero, any_nb hxr.1]
      exact hr2
  · cases alli (okX b.Map (opL b s u) path) 0 path <;> rfl
theorem c_spec_CheckSupplyPath (b : DBoard) (s : DState) (k : Int) (src path : List Int) (u : DUnit) (h : SupG b s k src u) (hn : BoardN b) (hs : s.Units.length < 1000000000000) (hg : supB b s k src = true) (hp : path.length ≤ 100) :
    A_spec_CheckSupplyPath b s k src path = some (en_spec_CheckSupplyPath (chkL b s u src path, true)) := by
  apply e_spec_CheckSupplyPath
  unfold P_spec_CheckSupplyPath chkL
  have hsu := sup_small h.g.bg
  have ha := area_b h.g.bg
  have hq := h.q
  unfold srcB at hq
  simp only [Bool.and_eq_true, decide_eq_true_eq] at hq
  rw [k_spec_jInput _ _ _ _ (c_spec_jInput _ _ _ _ hn hs), hg, if_neg (by simp), ixA_get sl_cUnit _ _ h.hu]
  by_cases h0 : u.At < 0
  · rw [if_pos (by simpa using h0)]
    simp [show ¬ 0 ≤ u.At by omega, en_spec_CheckSupplyPath]
  · rw [if_neg (by simpa using h0)]
    cases path with
    | nil => simp [en_spec_CheckSupplyPath]
    | cons a l =>
      rw [if_neg (by simp; omega), wrap_id (n := b.Rules.Supply + 1) (by omega) (by omega)]
      by_cases h1 : b.Rules.Supply + 1 < ((a :: l).length : Int)
      · rw [if_pos (by simpa using h1)]
        simp only [List.length_cons] at h1
        simp [show ¬ (l.length : Int) ≤ b.Rules.Supply by omega, en_spec_CheckSupplyPath]
      · rw [if_neg (by simpa using h1), k_spec_mSize _ (c_spec_mSize _), wrap_id (n := b.Map.Width * b.Map.Height) (by omega) (by omega), wrap_id (n := b.Map.Width * b.Map.Height - 1) (by omega) (by omega), k_spec_l1All _ _ _ (c_spec_l1All _ _ _ (by omega)), ← ha.1]
        cases hall : (a :: l).all (inB 0 ((b.Map.Terrain.length : Int) - 1)) with
        | false =>
          have : alli (okX b.Map (opL b s u) (a :: l)) 0 (a :: l) = false := by
            cases hal : alli (okX b.Map (opL b s u) (a :: l)) 0 (a :: l) with
            | false => rfl
            | true =>
              have : (a :: l).all (inB 0 ((b.Map.Terrain.length : Int) - 1)) = true := by
                rw [List.all_eq_true]
                intro x hx
                obtain ⟨i, hi, hix⟩ := List.mem_iff_getElem.1 hx
                have := okX_area (alli_get hal i x (by rw [List.getElem?_eq_getElem hi, hix]))
                rw [inB_iff]
                omega
              rw [hall] at this
              cases this
          rw [if_pos (by simp), this]
          simp [en_spec_CheckSupplyPath]
        | true =>
          rw [if_neg (by simp), ixA_get sl_cI (a :: l) 0 (x := a) rfl, k_spec_l1Has _ _ (c_spec_l1Has _ _ (by omega))]
          by_cases h2 : a ∈ src
          · rw [if_neg (by simpa using h2), wrap_id (by simp only [List.length_cons]; omega) (by simp only [List.length_cons] at hp ⊢; omega), ixA_at sl_cI (n := (a :: l).length - 1) (x := lastI (a :: l)) (by simp) (getD_at 0 (by simp))]
            by_cases h3 : lastI (a :: l) = u.At
            · rw [if_neg (by simp [h3]), k_spec_jUnit _ _ _ _ (c_spec_jUnit _ _ _ _ _ h)]
              dsimp only
              rw [l_spec_CheckSupplyPath_L8 b s k src (a :: l) u h hp hall]
              have e1 : decide (0 ≤ u.At) = true := by simp; omega
              have e2 : decide (((a :: l).length : Int) ≤ b.Rules.Supply + 1) = true := by rw [decide_eq_true_eq]; omega
              have e3 : decide (headI (a :: l) ∈ src) = true := by simpa [headI] using h2
              rw [e1, e2, e3, beq_iff_eq.2 h3]
              simp
            · rw [if_pos (by simpa using h3)]
              simp [h3, en_spec_CheckSupplyPath]
          · rw [if_pos (by simpa using h2)]
            simp [headI, h2, en_spec_CheckSupplyPath]
/-! the supply path, found -/
theorem way_ok {b : DBoard} {s : DState} {k : Int} {src : List Int} {u : DUnit} (h : SupG b s k src u) (hw : 0 ≤ wayL b s.Units src u) :
    WayOk b.Map (opL b s u) src u.At (wayL b s.Units src u) ∧ wayL b s.Units src u ≤ b.Rules.Supply ∧ 0 ≤ u.At ∧ u.At < b.Map.Width * b.Map.Height := by
  have h0 : 0 ≤ u.At := by
    unfold wayL at hw
    by_cases h0 : u.At < 0
    · rw [if_pos h0] at hw; omega
    · omega
  have hp := unit_place (h.g.u u h.m) h0
  have hg := way_get (us := s.Units) h.g.bg h.q h0 hp.1
  have hq := h.q
  have ha := area_b h.g.bg
  unfold srcB at hq
  simp only [Bool.and_eq_true, decide_eq_true_eq, List.all_eq_true, inB_iff] at hq
  unfold wayL at hw ⊢
  rw [if_neg (by omega)] at hw ⊢
  by_cases hs : b.Rules.Supply < (getI (spreadL b.Map (openL b s.Units u.Side u.Kind) src) u.At).getD 0
  · rw [if_pos hs] at hw; omega
  · rw [if_neg hs] at hw ⊢
    exact ⟨⟨h.mo _ _, h.g.bg.h0, fun x hx => by have := hq.2.2 x hx; rw [op_len]; omega, rising_lt hq.2.1, hg, hw⟩, by omega, h0, hp.1⟩
theorem one_ok {b : DBoard} {s : DState} {k : Int} {src : List Int} {u : DUnit} (h : SupG b s k src u) (h0 : 0 ≤ u.At) (h1 : u.At < b.Map.Width * b.Map.Height) : SpreadOk b.Map (opL b s u) [u.At] := by
  have hs := src_ok h.g.bg h.q s.Units u.Side u.Kind
  exact ⟨hs.n, hs.w, hs.l, fun i hi => by have : ((opL b s u).length : Int) = b.Map.Width * b.Map.Height := hs.n; rw [List.mem_singleton.1 hi]; omega, by simp, hs.b⟩
theorem way_start_at {m : DMap} {op : List Bool} {src : List Int} {a n : Int} (w : WayOk m op src a n) {k : Int} (h0 : 0 ≤ k) (h1 : k < op.length) : getI (spreadL m op [a]) k = some ((getI (spreadL m op [a]) k).getD 0) := getD_some h0 (by rw [spread_len]; exact h1)
theorem l_impl_SupplyPath_L7 (b : DBoard) (u : DUnit) (op : List Bool) (src : List Int) (a : Int) (hs : ∀ k ∈ src, 0 ≤ k ∧ k < op.length) (hl : src.length ≤ 20) :
    OLe (L_impl_SupplyPath_L13 [w0 b.Map op src a] b u (spreadL b.Map op [a]) (w0 b.Map op src a)) (L_impl_SupplyPath_L7 b u (spreadL b.Map op [a]) (-1) src src.length 0) := by
  have hg : ∀ k, 0 ≤ k ∧ k < (op.length : Int) → getI (spreadL b.Map op [a]) k = some ((getI (spreadL b.Map op [a]) k).getD 0) := fun k hk => getD_some hk.1 (by rw [spread_len]; exact hk.2)
  intro r hr
  refine fold_loop (fun j (best : Int) => L_impl_SupplyPath_L7 b u (spreadL b.Map op [a]) best src src.length j) src (fun _ best i => if decide (0 ≤ (getI (spreadL b.Map op [a]) i).getD 0) && (decide (best < 0) || decide ((getI (spreadL b.Map op [a]) i).getD 0 < (getI (spreadL b.Map op [a]) best).getD 0)) then i else best)
    (fun _ best => best = -1 ∨ (0 ≤ best ∧ best < op.length)) (fun best => L_impl_SupplyPath_L13 [best] b u (spreadL b.Map op [a]) best) ?_ ?_ (-1) (.inl rfl) r ?_
  · intro best hb r hr
    apply e_impl_SupplyPath_L7
    unfold P_impl_SupplyPath_L7
    rw [if_neg (by simp)]
    exact hr
  · intro i x best hx hi hb
    have hx2 := hs x (mem_of_get hx)
    refine ⟨by split <;> omega, ?_⟩
    intro r hr
    apply e_impl_SupplyPath_L7
    unfold P_impl_SupplyPath_L7
    rw [if_pos (by simpa using hi), ixA_at sl_cI rfl hx, ixA_get sl_cI _ _ (hg x hx2), wrap_id (n := (i : Int) + 1) (by omega) (by omega)]
    by_cases h0 : 0 ≤ (getI (spreadL b.Map op [a]) x).getD 0
    · rw [if_pos (by rw [decide_eq_true h0])]
      rcases hb with hb | hb
      · rw [if_pos (by rw [decide_eq_true_eq]; omega)]
        rw [if_pos (by simp [h0]; omega)] at hr
        exact hr
      · rw [if_neg (by rw [decide_eq_true_eq]; omega), ixA_get sl_cI _ _ (hg x hx2), ixA_get sl_cI _ _ (hg best hb)]
        by_cases h1 : (getI (spreadL b.Map op [a]) x).getD 0 < (getI (spreadL b.Map op [a]) best).getD 0
        · rw [if_pos (by simp [h0, h1])] at hr
          rw [if_pos (by rw [decide_eq_true h1])]
          exact hr
        · rw [if_neg (by simp [h1]; omega)] at hr
          rw [if_neg (by rw [decide_eq_true_eq]; exact h1)]
          exact hr
    · rw [if_neg (by simp [h0])] at hr
      rw [if_neg (by rw [decide_eq_true_eq]; exact h0)]
      exact hr
  · rw [foldN_const]
    exact hr
theorem l_impl_SupplyPath_L13 (b : DBoard) (g : BoardG b) (u : DUnit) (op : List Bool) (src : List Int) (n : Int) (w : WayOk b.Map op src u.At n) (hn : n ≤ 20) (ho : op.length ≤ 100) :
    ∀ (f t : Nat), (t : Int) + f = n → L_impl_SupplyPath_L13 ((List.range (t + 1)).map (wS b.Map op src u.At)) b u (spreadL b.Map op [u.At]) (wS b.Map op src u.At t) = some (en_impl_SupplyPath (wayW b.Map op src u.At n, true)) := by
  intro f
  induction f with
  | zero =>
    intro t ht
    have ht2 : n.toNat = t := by omega
    have he := w.end_
    rw [ht2] at he
    apply e_impl_SupplyPath_L13
    unfold P_impl_SupplyPath_L13
    rw [if_neg (by rw [he]; simp)]
    refine (cast_of inj_lb (a := ((List.range (t + 1)).map (wS b.Map op src u.At), true)) (gvTup (gvVs_cons (giveV_at ok_cI rfl) (gvVs_cons rfl rfl))) _).trans ?_
    unfold wayW pathW
    rw [ht2]
    rfl
  | succ f ih =>
    intro t ht
    obtain ⟨h1, h2⟩ := w.seq t (by omega)
    obtain ⟨z, hz, _, hzl⟩ := getI_some h1
    rw [spread_len] at hzl
    apply e_impl_SupplyPath_L13
    unfold P_impl_SupplyPath_L13
    have hN : (nbL b.Map (wS b.Map op src u.At t)).length ≤ 6 := by unfold nbL; exact List.length_filter_le _ _
    have nx := ih (t + 1) (by omega)
    rw [range_snoc] at nx
    rw [if_pos (by rw [bne_iff_ne]; exact w.more (by omega)), k_impl_neighboursOn _ _ (c_impl_neighboursOn _ _ g.s.b (by unfold sm; omega))]
    refine fold_loop (fun j (best : Int) => L_impl_SupplyPath_L16 ((List.range (t + 1)).map (wS b.Map op src u.At)) b u (spreadL b.Map op [u.At]) (wS b.Map op src u.At t) best (nbL b.Map (wS b.Map op src u.At t)) (nbL b.Map (wS b.Map op src u.At t)).length j) (nbL b.Map (wS b.Map op src u.At t))
      (fun _ best k => if ((getI (spreadL b.Map op [u.At]) k).getD 0 == (getI (spreadL b.Map op [u.At]) (wS b.Map op src u.At t)).getD 0 - 1) && (decide (best < 0) || decide (k < best)) then k else best)
      (fun _ _ => True) (fun best => L_impl_SupplyPath_L13 ((List.range (t + 1)).map (wS b.Map op src u.At) ++ [best]) b u (spreadL b.Map op [u.At]) best) ?_ ?_ (-1) trivial _ ?_
    · intro best _ r hr
      apply e_impl_SupplyPath_L16
      unfold P_impl_SupplyPath_L16
      rw [if_neg (by simp), apR_eq rt_cI (xs := [best]) rfl (Src.row (n := 1) ok_cI rfl rfl) rfl rfl (by simp; omega) (by simp; omega) rfl]
      exact hr
    · intro i k best hk hi _
      have hka := nb_area g.w0 g.h0 (mem_of_get hk)
      have hmn := w.o.n
      have hkv := way_start_at w hka.1 (by omega)
      refine ⟨trivial, ?_⟩
      intro r hr
      apply e_impl_SupplyPath_L16
      unfold P_impl_SupplyPath_L16
      rw [if_pos (by simpa using hi), ixA_at sl_cI rfl hk, ixA_get sl_cI _ _ hkv, ixA_get sl_cI _ _ h1, wrap_id (n := n - (t : Int) - 1) (by omega) (by omega), wrap_id (n := (i : Int) + 1) (by omega) (by omega)]
      rw [h1, Option.getD_some] at hr
      cases hc : ((getI (spreadL b.Map op [u.At]) k).getD 0 == n - (t : Int) - 1) with
      | false =>
        rw [hc] at hr
        rw [if_neg (by simp)] at hr ⊢
        exact hr
      | true =>
        rw [hc] at hr
        rw [if_pos rfl]
        by_cases hb : best < 0
        · rw [if_pos (by simp [hb])] at hr
          rw [if_pos (by simpa using hb)]
          exact hr
        · rw [if_neg (by simpa using hb)]
          by_cases hb2 : k < best
          · rw [if_pos (by simp [hb2])] at hr
            rw [if_pos (by simpa using hb2)]
            exact hr
          · rw [if_neg (by simp; omega)] at hr
            rw [if_neg (by simpa using hb2)]
            exact hr
    · rw [foldN_const]
      exact nx
def supPathL (b : DBoard) (s : DState) (k : Int) (src : List Int) : List Int × Bool :=
  if supB b s k src then (if 0 ≤ wayL b s.Units src ((getI s.Units k).getD zU) then (wayW b.Map (opL b s ((getI s.Units k).getD zU)) src ((getI s.Units k).getD zU).At (wayL b s.Units src ((getI s.Units k).getD zU)), true) else ([], false)) else ([], false)
theorem c_impl_SupplyPath (b : DBoard) (s : DState) (k : Int) (src : List Int) (hn : BoardN b) (hs : s.Units.length < 1000000000000) : A_impl_SupplyPath b s k src = some (en_impl_SupplyPath (supPathL b s k src)) := by
  apply e_impl_SupplyPath
  unfold P_impl_SupplyPath supPathL
  rw [k_impl_isSupply _ _ _ _ (c_impl_isSupply _ _ _ _ hn hs)]
  cases hg : supB b s k src with
  | false => rfl
  | true =>
    obtain ⟨u, h⟩ := SupG.of hg hn
    rw [h.hu, Option.getD_some, if_neg (by simp), ixA_get sl_cUnit _ _ h.hu, k_impl_wayOf _ _ _ _ (c_impl_wayOf _ _ _ _ h.g h.m h.q), if_pos rfl]
    by_cases hw : 0 ≤ wayL b s.Units src u
    · obtain ⟨w, w1, w2, w3⟩ := way_ok h hw
      have hk := unit_kind (h.g.u u h.m)
      have hsu := sup_small h.g.bg
      have ha := area_b h.g.bg
      have hso := src_ok h.g.bg h.q s.Units u.Side u.Kind
      have hst := l_impl_SupplyPath_L13 b h.g.bg u (opL b s u) src _ w (by omega) (by rw [op_len]; omega) (wayL b s.Units src u).toNat 0 (by omega)
      rw [if_pos hw, if_neg (by rw [decide_eq_true_eq]; omega), ixA_get sl_cUnit _ _ h.hu, k_impl_openFor _ _ _ _ (c_impl_openFor _ _ _ _ h.g (unit_side (h.g.u u h.m)) hk.1 hk.2), gvc_at ok_cB rfl]
      refine (cast_of (slc_inj ok_cI) (a := [u.At]) rfl _).trans ?_
      rw [k_impl_spread _ _ _ (c_impl_spread _ _ _ (one_ok h w2 w3))]
      exact l_impl_SupplyPath_L7 b u (opL b s u) src u.At hso.s (by have := hso.q; omega) _ hst
    · rw [if_pos (by rw [decide_eq_true_eq]; omega), if_neg hw]
      rfl
/-! the supply path, layer by layer -/
theorem l_spec_SupplyPath_L18 (b : DBoard) (g : BoardG b) (out : List Int) (op : List Bool) (far back : List Int) (n : Int) (t : Nat) (ht0 : t ≠ 0) (ht : t ≤ 100) (best : Int) (i N : Nat) (hN : i < 1000) (p : Int) (hp : out[t - 1]? = some p) (hps : sm p) :
    ∀ (f d : Nat) (near : Bool), d + f = 6 → OLe (L_spec_SupplyPath_L13 out b op far n back t (if (near || (dl.drop d).any fun e => nextL b.Map p e == (i : Int)) && decide (best < 0) then (i : Int) else best) N ((i : Int) + 1))
      (L_spec_SupplyPath_L18 out b op far n back t best i near d N i) := by
  intro f
  induction f with
  | zero =>
    intro d near hd r hr
    obtain rfl : d = 6 := by omega
    apply e_spec_SupplyPath_L18
    unfold P_spec_SupplyPath_L18
    rw [if_neg (by simp), wrap_id (by omega) (by omega)]
    cases near with
    | false => simpa [dl] using hr
    | true =>
      rw [if_pos rfl]
      by_cases hb : best < 0
      · rw [if_pos (by simp [hb])] at hr
        rw [if_pos (by simpa using hb)]
        exact hr
      · rw [if_neg (by simp [hb])] at hr
        rw [if_neg (by simpa using hb)]
        exact hr
  | succ f ih =>
    intro d near hd r hr
    apply e_spec_SupplyPath_L18
    unfold P_spec_SupplyPath_L18
    rw [if_pos (by rw [decide_eq_true_eq]; omega), if_pos (by rw [decide_eq_true_eq]; omega), wrap_id (n := (d : Int) + 1) (by omega) (by omega)]
    cases near with
    | true =>
      rw [if_pos rfl]
      refine ih (d + 1) true (by omega) r ?_
      simpa using hr
    | false =>
      have hlt := (List.getElem?_eq_some_iff.1 hp).1
      rw [if_neg (by simp), wrap_id (n := (t : Int) - 1) (by omega) (by omega), oxA_at rt_cI (j := t - 1) (by omega) hlt]
      refine (ld_at (E := tI) rfl rfl ok_cI (fun _ => rfl) (l := out) rfl rfl hp _).trans ?_
      rw [k_spec_mNext _ _ _ (c_spec_mNext _ _ _ g.s.b hps (by omega) (by omega))]
      refine ih (d + 1) (nextL b.Map p d == (i : Int)) (by omega) r ?_
      rw [drop_dl (by omega), List.any_cons] at hr
      simpa using hr
theorem l_spec_SupplyPath_L18_0 (b : DBoard) (out : List Int) (op : List Bool) (far back : List Int) (n : Int) (best : Int) (i N : Nat) (hN : i < 1000) :
    OLe (L_spec_SupplyPath_L13 out b op far n back 0 (if decide (best < 0) then (i : Int) else best) N ((i : Int) + 1)) (L_spec_SupplyPath_L18 out b op far n back 0 best i true 0 N i) := by
  intro r hr
  apply e_spec_SupplyPath_L18
  unfold P_spec_SupplyPath_L18
  rw [if_pos (by simp), if_neg (by simp), wrap_id (by omega) (by omega), if_pos rfl]
  by_cases hb : best < 0
  · rw [if_pos (by simp [hb])] at hr
    rw [if_pos (by simpa using hb)]
    exact hr
  · rw [if_neg (by simp [hb])] at hr
    rw [if_neg (by simpa using hb)]
    exact hr
theorem l_spec_SupplyPath_L9 (b : DBoard) (g : BoardG b) (op : List Bool) (src : List Int) (a n : Int) (w : WayOk b.Map op src a n) (hn : n ≤ 20) (ho : op.length ≤ 100) :
    ∀ (f t : Nat), (t : Int) + f = n + 1 → L_spec_SupplyPath_L9 ((List.range t).map (wS b.Map op src a)) b op (spreadL b.Map op src) n (spreadL b.Map op [a]) t = some (en_spec_SupplyPath (wayW b.Map op src a n, true)) := by
  have hn0 := w.n0
  intro f
  induction f with
  | zero =>
    intro t ht
    apply e_spec_SupplyPath_L9
    unfold P_spec_SupplyPath_L9
    rw [if_neg (by rw [decide_eq_true_eq]; omega)]
    unfold wayW pathW
    rw [show n.toNat + 1 = t by omega]
    rfl
  | succ f ih =>
    intro t ht
    apply e_spec_SupplyPath_L9
    unfold P_spec_SupplyPath_L9
    have nx := ih (t + 1) (by omega)
    rw [range_snoc] at nx
    rw [if_pos (by rw [decide_eq_true_eq]; omega)]
    have hlay := w.lay 0 t (by omega)
    have hfar : ∀ i, i < op.length → getI (spreadL b.Map op src) (i : Int) = some ((getI (spreadL b.Map op src) (i : Int)).getD 0) := fun i hi => getD_some (by omega) (by rw [spread_len]; omega)
    have hbk : ∀ i, i < op.length → getI (spreadL b.Map op [a]) (i : Int) = some ((getI (spreadL b.Map op [a]) (i : Int)).getD 0) := fun i hi => getD_some (by omega) (by rw [spread_len]; omega)
    have hrl : (List.range op.length).length = op.length := List.length_range
    refine fold_loop (fun j (best : Int) => L_spec_SupplyPath_L13 ((List.range t).map (wS b.Map op src a)) b op (spreadL b.Map op src) n (spreadL b.Map op [a]) t best op.length j) (List.range op.length)
      (fun _ best i => if layB b.Map (spreadL b.Map op src) (spreadL b.Map op [a]) n (if t = 0 then 0 else wS b.Map op src a (t - 1)) t i && decide (best < 0) then (i : Int) else best)
      (fun _ _ => True) (fun best => L_spec_SupplyPath_L9 ((List.range t).map (wS b.Map op src a) ++ [best]) b op (spreadL b.Map op src) n (spreadL b.Map op [a]) ((t + 1 : Nat) : Int)) ?_ ?_ (-1) trivial _ ?_
    · intro best _ r hr
      apply e_spec_SupplyPath_L13
      unfold P_spec_SupplyPath_L13
      rw [hrl, if_neg (by simp), apR_eq rt_cI (xs := [best]) rfl (Src.row (n := 1) ok_cI rfl rfl) rfl rfl (by simp; omega) (by simp; omega) rfl, wrap_id (n := (t : Int) + 1) (by omega) (by omega)]
      exact hr
    · intro i x best hx hi _
      rw [hrl] at hi
      have hx2 : x = i := by
        rw [List.getElem?_range (by omega)] at hx
        exact (Option.some.inj hx).symm
      subst hx2
      refine ⟨trivial, ?_⟩
      intro r hr
      apply e_spec_SupplyPath_L13
      unfold P_spec_SupplyPath_L13
      rw [if_pos (by simpa using hi), ixA_get sl_cI _ _ (hfar x (by omega))]
      unfold layB at hr
      by_cases h1 : (getI (spreadL b.Map op src) (x : Int)).getD 0 = (t : Int)
      · rw [if_neg (by rw [h1]; simp), ixA_get sl_cI _ _ (hbk x (by omega)), wrap_id (n := n - (t : Int)) (by omega) (by omega)]
        rw [decide_eq_true h1, Bool.true_and] at hr
        by_cases h2 : (getI (spreadL b.Map op [a]) (x : Int)).getD 0 = n - (t : Int)
        · rw [if_neg (by rw [h2]; simp)]
          rw [decide_eq_true h2, Bool.true_and] at hr
          by_cases h0 : t = 0
          · subst h0
            refine l_spec_SupplyPath_L18_0 b _ op _ _ n best x op.length (by omega) r ?_
            simpa using hr
          · have hq := (w.seq (t - 1) (by omega)).1
            obtain ⟨z, hz, _, hzl⟩ := getI_some hq
            rw [spread_len] at hzl
            have hout : ((List.range t).map (wS b.Map op src a))[t - 1]? = some (wS b.Map op src a (t - 1)) := by
              rw [List.getElem?_map, List.getElem?_range (by omega)]
              rfl
            have e0 : ((t : Int) == 0) = (t == 0) := by rw [Bool.eq_iff_iff, beq_iff_eq, beq_iff_eq]; omega
            rw [e0]
            refine l_spec_SupplyPath_L18 b g _ op _ _ n t h0 (by omega) best x op.length (by omega) _ hout (by unfold sm; omega) 6 0 (t == 0) rfl r ?_
            rw [List.drop_zero, any_nb (by omega)]
            rw [if_neg h0] at hr
            exact hr
        · rw [if_pos (by rw [bne_iff_ne]; exact h2), wrap_id (by omega) (by omega)]
          rw [decide_eq_false h2] at hr
          simpa using hr
      · rw [if_pos (by rw [bne_iff_ne]; exact h1), wrap_id (by omega) (by omega)]
        rw [decide_eq_false h1] at hr
        simpa using hr
    · rw [foldN_const]
      have : (List.range op.length).foldl (fun (best : Int) i => if layB b.Map (spreadL b.Map op src) (spreadL b.Map op [a]) n (if t = 0 then 0 else wS b.Map op src a (t - 1)) t i && decide (best < 0) then (i : Int) else best) (-1) = wS b.Map op src a t := hlay
      rw [this]
      exact nx
theorem c_spec_SupplyPath (b : DBoard) (s : DState) (k : Int) (src : List Int) (hn : BoardN b) (hs : s.Units.length < 1000000000000) : A_spec_SupplyPath b s k src = some (en_spec_SupplyPath (supPathL b s k src)) := by
  apply e_spec_SupplyPath
  unfold P_spec_SupplyPath supPathL
  rw [k_spec_jInput _ _ _ _ (c_spec_jInput _ _ _ _ hn hs)]
  cases hg : supB b s k src with
  | false => rfl
  | true =>
    obtain ⟨u, h⟩ := SupG.of hg hn
    rw [h.hu, Option.getD_some, if_neg (by simp), k_spec_jIn _ _ _ _ (c_spec_jIn _ _ _ _ h.g h.hu h.m h.q), if_pos rfl]
    by_cases hw : 0 ≤ wayL b s.Units src u
    · obtain ⟨w, w1, w2, w3⟩ := way_ok h hw
      have hsu := sup_small h.g.bg
      have ha := area_b h.g.bg
      have hst := l_spec_SupplyPath_L9 b h.g.bg (opL b s u) src u.At _ w (by omega) (by rw [op_len]; omega) ((wayL b s.Units src u).toNat + 1) 0 (by omega)
      rw [if_pos hw, if_neg (by simpa using hw), k_spec_jUnit _ _ _ _ (c_spec_jUnit _ _ _ _ _ h), ixA_get sl_cUnit _ _ h.hu]
      dsimp only
      rw [ixA_get sl_cI _ _ w.f]
      refine (cast_of (slc_inj ok_cI) (a := [u.At]) rfl _).trans ?_
      rw [k_spec_jFar _ _ _ (c_spec_jFar _ _ _ (one_ok h w2 w3))]
      exact hst
    · rw [if_pos (by simpa using hw), if_neg hw]
      rfl
/-! hexes without which there is no supply -/
def swayL (b : DBoard) (op : List Bool) (src : List Int) (a : Int) : Int :=
  if a < 0 then -1 else if b.Rules.Supply < (getI (spreadL b.Map op src) a).getD 0 then -1 else (getI (spreadL b.Map op src) a).getD 0
theorem c_impl_supplyWay (b : DBoard) (u : DUnit) (op : List Bool) (src : List Int) (h : SpreadOk b.Map op src) (ha : u.At < op.length) : A_impl_supplyWay b u op src = some (en_impl_supplyWay (swayL b op src u.At)) := by
  apply e_impl_supplyWay
  unfold P_impl_supplyWay swayL
  by_cases h0 : u.At < 0
  · rw [if_pos (by simpa using h0), if_pos h0]; rfl
  · rw [if_neg (by simpa using h0), if_neg h0, k_impl_spread _ _ _ (c_impl_spread _ _ _ h), ixA_get sl_cI _ _ (getD_some (by omega) (by rw [spread_len]; exact ha))]
    by_cases h1 : b.Rules.Supply < (getI (spreadL b.Map op src) u.At).getD 0
    · rw [if_pos (by simpa using h1), if_pos h1]; rfl
    · rw [if_neg (by simpa using h1), if_neg h1]; rfl
theorem SpreadOk.set {m : DMap} {op : List Bool} {src : List Int} (h : SpreadOk m op src) (i : Nat) (z : Bool) : SpreadOk m (op.set i z) src :=
  ⟨by rw [List.length_set]; exact h.n, h.w, by rw [List.length_set]; exact h.l, fun k hk => by rw [List.length_set]; exact h.s k hk, h.q, h.b⟩
def cutP (b : DBoard) (op : List Bool) (src : List Int) (a : Int) (i : Nat) : Bool := (getI op (i : Int)).getD false && decide (swayL b (op.set i false) src a < 0)
theorem set_back {op : List Bool} {i : Nat} (h : op[i]? = some true) : (op.set i false).set i true = op := by
  rw [List.set_set]
  obtain ⟨hl, hx⟩ := List.getElem?_eq_some_iff.1 h
  rw [← hx]
  exact List.set_getElem_self hl
def cutsL (b : DBoard) (op : List Bool) (src : List Int) (a : Int) : List Int := colI (fun i _ => cutP b op src a i) (fun i _ => (i : Int)) b.Map.Terrain
theorem cut_on {b : DBoard} {op : List Bool} {src : List Int} {a n : Int} (w : WayOk b.Map op src a n) (hn : n ≤ b.Rules.Supply) (ha : 0 ≤ a) {i : Nat} (hi : i < op.length) (h : cutP b op src a i = true) : (i : Int) ∈ wayW b.Map op src a n := by
  by_cases hm : (i : Int) ∈ wayW b.Map op src a n
  · exact hm
  · exfalso
    obtain ⟨v, v1, v2, v3⟩ := w.off (i := i) (by omega) (by omega) hm
    unfold cutP at h
    rw [Bool.and_eq_true, decide_eq_true_eq] at h
    rw [Int.toNat_natCast] at v1
    have h2 := h.2
    unfold swayL at h2
    rw [v1, Option.getD_some, if_neg (by omega), if_neg (by omega)] at h2
    omega
theorem cut_own {b : DBoard} {op : List Bool} {src : List Int} {a n : Int} (w : WayOk b.Map op src a n) {i : Nat} (hi : i < op.length) (ha : a = i) : cutP b op src a i = true := by
  subst ha
  unfold cutP
  rw [far_open w.f w.n0, Option.getD_some, Bool.true_and, decide_eq_true_eq]
  have hv := getD_some (l := spreadL b.Map (op.set i false) src) (k := (i : Int)) (by omega) (by rw [spread_len, List.length_set]; omega)
  have hneg := own_cut (m := b.Map) (src := src) (op := op) (a := (i : Int)) (by omega) (by omega) (v := (getI (spreadL b.Map (op.set i false) src) (i : Int)).getD 0) (by rw [Int.toNat_natCast]; exact hv)
  unfold swayL
  rw [if_neg (by omega)]
  split
  · omega
  · exact hneg
theorem cuts_on {b : DBoard} {op : List Bool} {src : List Int} {a n : Int} (w : WayOk b.Map op src a n) (hn : n ≤ b.Rules.Supply) (ha : 0 ≤ a) (hl : op.length = b.Map.Terrain.length) {k : Int} (hk : k ∈ cutsL b op src a) : k ∈ wayW b.Map op src a n := by
  unfold cutsL at hk
  rw [mem_colI] at hk
  obtain ⟨i, x, hx, hp, rfl⟩ := hk
  exact cut_on w hn ha (by rw [hl]; exact (List.getElem?_eq_some_iff.1 hx).1) hp
theorem cuts_own {b : DBoard} {op : List Bool} {src : List Int} {a n : Int} (w : WayOk b.Map op src a n) (hl : op.length = b.Map.Terrain.length) : a ∈ cutsL b op src a := by
  obtain ⟨i, e, hx, hi⟩ := getI_some w.f
  rw [spread_len] at hi
  unfold cutsL
  rw [mem_colI]
  exact ⟨i, _, List.getElem?_eq_getElem (by omega), cut_own w hi e, e.symm⟩
theorem chk_in {b : DBoard} {s : DState} {k : Int} {src path : List Int} {u : DUnit} (h : SupG b s k src u) (hc : chkL b s u src path = true) : 0 ≤ wayL b s.Units src u := by
  unfold chkL at hc
  simp only [Bool.and_eq_true, decide_eq_true_eq, beq_iff_eq] at hc
  obtain ⟨h0, h1, h2, h3, h4, h5⟩ := hc
  have hl : 0 < path.length := List.length_pos_iff.2 h1
  have hr := reach_path (getD_at 0 hl) h3 (okX_at.1 h5) (path.length - 1) _ (getD_at 0 (by omega))
  obtain ⟨v, v1, v2, v3⟩ := spread_le hr
  change getI _ (lastI path) = _ at v1
  rw [h4] at v1
  unfold wayL
  rw [if_neg (by omega), v1, Option.getD_some, if_neg (by omega)]
  exact v2
theorem way_chk {b : DBoard} {s : DState} {k : Int} {src : List Int} {u : DUnit} (h : SupG b s k src u) (hw : 0 ≤ wayL b s.Units src u) : chkL b s u src (wayW b.Map (opL b s u) src u.At (wayL b s.Units src u)) = true := by
  obtain ⟨w, w1, w2, w3⟩ := way_ok h hw
  have hl := wayW_len b.Map (opL b s u) src u.At (wayL b s.Units src u)
  have hh : headI (wayW b.Map (opL b s u) src u.At (wayL b s.Units src u)) = w0 b.Map (opL b s u) src u.At := by
    unfold headI
    rw [List.getD_eq_getElem?_getD, wayW_get (by omega)]
    rfl
  have hla : lastI (wayW b.Map (opL b s u) src u.At (wayL b s.Units src u)) = u.At := by
    unfold lastI
    rw [hl, Nat.add_sub_cancel, List.getD_eq_getElem?_getD, wayW_get (by omega), w.end_]
    rfl
  unfold chkL
  simp only [Bool.and_eq_true, decide_eq_true_eq, beq_iff_eq]
  refine ⟨w2, fun e => by rw [e] at hl; simp at hl, by rw [hl]; omega, by rw [hh]; exact w.start.1, hla, okX_at.2 w.ok⟩
theorem c_impl_CutHexes_1_2_1 (op : List Bool) (b : DBoard) (u : DUnit) (src : List Int) (i : Nat) (h : SpreadOk b.Map op src) (hi : i < op.length) (ha : u.At < op.length) :
    A_impl_CutHexes_1_2_1 op 0 op.length op.length b u src i = some (en_impl_CutHexes_1_2_1 (cutP b op src u.At i, op.length, b, u, src, op)) := by
  apply e_impl_CutHexes_1_2_1
  unfold P_impl_CutHexes_1_2_1
  obtain ⟨o, ho⟩ : ∃ o, op[i]? = some o := ⟨_, List.getElem?_eq_getElem hi⟩
  have hg : getI op (i : Int) = some o := by rw [getI_nat]; exact ho
  rw [oxA_at rt_cB rfl hi]
  refine (ld_at (E := tB) rfl rfl ok_cB (fun _ => rfl) (l := op) rfl rfl ho _).trans ?_
  unfold cutP
  rw [hg, Option.getD_some]
  cases o with
  | false => rw [if_pos (by simp)]; rfl
  | true =>
    have hi2 : i < (op.set i false).length := by rw [List.length_set]; exact hi
    have ho2 : (op.set i false)[i]? = some false := by rw [List.getElem?_set_self hi]
    rw [if_neg (by simp), oxA_at rt_cB rfl hi, stF (f := 0) (off := i * 1) ok_cB rfl rfl ho rfl (by omega) rfl (y' := false) rfl]
    refine (cast_of (slc_inj ok_cB) (a := op.set i false) (by rw [show op.length = (op.set i false).length from (List.length_set ..).symm]; exact giveV_at ok_cB rfl) _).trans ?_
    rw [k_impl_supplyWay _ _ _ _ (c_impl_supplyWay b u (op.set i false) src (h.set i false) (by rw [List.length_set]; exact ha)), oxA_at rt_cB rfl hi, stF (f := 0) (off := i * 1) ok_cB rfl rfl ho2 rfl (by omega) rfl (y' := true) rfl, set_back ho, Bool.true_and]
    rfl
theorem c_impl_hexesThat_of_impl_CutHexes_1_2 (op : List Bool) (b : DBoard) (u : DUnit) (src : List Int) (h : SpreadOk b.Map op src) (hl : op.length = b.Map.Terrain.length) (ha : u.At < op.length) :
    A_impl_hexesThat_of_impl_CutHexes_1_2 op b u src b = some (en_impl_hexesThat_of_impl_CutHexes_1_2 (cutsL b op src u.At, op.length, b, u, src, op)) := by
  apply e_impl_hexesThat_of_impl_CutHexes_1_2
  unfold P_impl_hexesThat_of_impl_CutHexes_1_2
  have h100 := h.l
  refine col_loop (fun k acc => L_impl_hexesThat_of_impl_CutHexes_1_L3 op acc 0 op.length op.length b u src b.Map.Terrain.length k) b.Map.Terrain (fun i _ => cutP b op src u.At i) (fun i _ => (i : Int)) (fun acc => some (en_impl_hexesThat_of_impl_CutHexes_1_2 (acc, op.length, b, u, src, op))) ?_ (fun i x acc hx hi hacc => ?_) _ rfl
  · intro acc _ r hr
    apply e_impl_hexesThat_of_impl_CutHexes_1_L3
    unfold P_impl_hexesThat_of_impl_CutHexes_1_L3
    rw [if_neg (by simp), give_at ok_cI rfl, ← hr]
    rfl
  · intro r hr
    apply e_impl_hexesThat_of_impl_CutHexes_1_L3
    unfold P_impl_hexesThat_of_impl_CutHexes_1_L3
    rw [if_pos (by simpa using hi), k_impl_CutHexes_1_2_1 _ _ _ _ _ _ _ _ (c_impl_CutHexes_1_2_1 op b u src i h (by omega) ha), wrap_id (n := (i : Int) + 1) (by omega) (by omega)]
    by_cases hc : cutP b op src u.At i = true
    · rw [if_pos hc] at hr ⊢
      rw [apR_eq rt_cI rfl (xs := [(i : Int)]) (Src.row (n := 1) ok_cI rfl rfl) rfl rfl (by simp; omega) (by simp; omega) rfl]
      exact hr
    · rw [if_neg hc] at hr ⊢
      exact hr
def cutHL (b : DBoard) (s : DState) (k : Int) (src : List Int) : List Int × Bool :=
  if supB b s k src then (if 0 ≤ wayL b s.Units src ((getI s.Units k).getD zU) then (cutsL b (opL b s ((getI s.Units k).getD zU)) src ((getI s.Units k).getD zU).At, true) else ([], false)) else ([], false)
theorem c_impl_CutHexes (b : DBoard) (s : DState) (k : Int) (src : List Int) (hn : BoardN b) (hs : s.Units.length < 1000000000000) : A_impl_CutHexes b s k src = some (en_impl_CutHexes (cutHL b s k src)) := by
  apply e_impl_CutHexes
  unfold P_impl_CutHexes cutHL
  rw [k_impl_isSupply _ _ _ _ (c_impl_isSupply _ _ _ _ hn hs)]
  cases hg : supB b s k src with
  | false => rfl
  | true =>
    obtain ⟨u, h⟩ := SupG.of hg hn
    rw [h.hu, Option.getD_some, if_neg (by simp), ixA_get sl_cUnit _ _ h.hu, k_impl_wayOf _ _ _ _ (c_impl_wayOf _ _ _ _ h.g h.m h.q), if_pos rfl]
    by_cases hw : 0 ≤ wayL b s.Units src u
    · obtain ⟨w, w1, w2, w3⟩ := way_ok h hw
      have hk := unit_kind (h.g.u u h.m)
      have ha := area_b h.g.bg
      have hso := src_ok h.g.bg h.q s.Units u.Side u.Kind
      rw [if_pos hw, if_neg (by rw [decide_eq_true_eq]; omega), ixA_get sl_cUnit _ _ h.hu, k_impl_openFor _ _ _ _ (c_impl_openFor _ _ _ _ h.g (unit_side (h.g.u u h.m)) hk.1 hk.2),
        k_impl_hexesThat_of_impl_CutHexes_1_2 _ _ _ _ _ (c_impl_hexesThat_of_impl_CutHexes_1_2 (opL b s u) b u src hso (op_len ..) (by rw [op_len]; omega))]
      rfl
    · rw [if_pos (by rw [decide_eq_true_eq]; omega), if_neg hw]
      rfl
def supMarL (b : DBoard) (s : DState) (k : Int) (src : List Int) : Int × Bool :=
  if supB b s k src then (if 0 ≤ wayL b s.Units src ((getI s.Units k).getD zU) then (b.Rules.Supply - wayL b s.Units src ((getI s.Units k).getD zU), true) else (0, false)) else (0, false)
theorem c_impl_SupplyMargin (b : DBoard) (s : DState) (k : Int) (src : List Int) (hn : BoardN b) (hs : s.Units.length < 1000000000000) : A_impl_SupplyMargin b s k src = some (en_impl_SupplyMargin (supMarL b s k src)) := by
  apply e_impl_SupplyMargin
  unfold P_impl_SupplyMargin supMarL
  rw [k_impl_isSupply _ _ _ _ (c_impl_isSupply _ _ _ _ hn hs)]
  cases hg : supB b s k src with
  | false => rfl
  | true =>
    obtain ⟨u, h⟩ := SupG.of hg hn
    have hsu := sup_small h.g.bg
    rw [h.hu, Option.getD_some, if_neg (by simp), ixA_get sl_cUnit _ _ h.hu, k_impl_wayOf _ _ _ _ (c_impl_wayOf _ _ _ _ h.g h.m h.q), if_pos rfl]
    by_cases hw : 0 ≤ wayL b s.Units src u
    · obtain ⟨w, w1, w2, w3⟩ := way_ok h hw
      rw [if_pos hw, if_neg (by rw [decide_eq_true_eq]; omega), wrap_id (by omega) (by omega)]
      rfl
    · rw [if_pos (by rw [decide_eq_true_eq]; omega), if_neg hw]
      rfl
/-! supply, drawn -/
theorem o_spec_DrawInSupply (x : KSl) (h : Arg x) : ∃ v, A_spec_DrawInSupply x = some (en_spec_DrawInSupply v) ∧ (BoardN v.1 ∧ v.2.1.Units.length ≤ 20 ∧ v.2.2.2.length ≤ 20) := by
  refine okA (e_spec_DrawInSupply _) ?_
  unfold P_spec_DrawInSupply
  refine ko_spec_l1Cur_game _ (o_spec_l1Cur_game _ 0 h.cu (by unfold Far; omega)) fun r hr => ?_
  obtain ⟨⟨b, s⟩, c1⟩ := r
  obtain ⟨hb, hu0, hu1, hc1⟩ := hr
  dsimp only at hb hu0 hu1 hc1 ⊢
  refine OK.cast inj_state (a := s) (gvState' rfl rfl) ?_
  refine ko_spec_l1Cur_unitIn _ _ (o_spec_l1Cur_unitIn _ _ _ hc1 (by unfold Far; omega)) fun q hq => ?_
  refine OK.cast inj_state (a := s) (gvState' rfl rfl) ?_
  refine ko_spec_l1Cur_sources _ _ _ (o_spec_l1Cur_sources _ _ _ hb hu1 _ hq (by unfold Far; omega)) fun v hv => ?_
  rw [gd_eq imm_cI]
  exact OK.cast inj_bsil (a := (b, s, q.1, v.1.1)) (gvTup (gvVs_cons rfl (gvVs_cons (gvState' rfl rfl) (gvVs_cons rfl (gvVs_cons (gvPart ok_cI rfl) rfl))))) (OK.some ⟨(b, s, q.1, v.1.1), rfl, hb, hu1, hv.1⟩)
theorem o_spec_DrawSupplyPath (x : KSl) (h : Arg x) : ∃ v, A_spec_DrawSupplyPath x = some (en_spec_DrawSupplyPath v) ∧ (BoardN v.1 ∧ v.2.1.Units.length ≤ 20 ∧ v.2.2.2.length ≤ 20) := by
  refine okA (e_spec_DrawSupplyPath _) ?_
  unfold P_spec_DrawSupplyPath
  refine ko_spec_DrawInSupply _ (o_spec_DrawInSupply _ h) fun v hv => ?_
  exact OK.some ⟨(_, _, _, _), rfl, hv⟩
theorem inj_bsill : Inj fun a : DBoard × DState × Int × List Int × List Int => AV.tup [AV.agg [slc cTerrain a.fst.Rules.Terrains, slc cKind a.fst.Rules.Kinds, I a.fst.Rules.Stack, I a.fst.Rules.River, I a.fst.Rules.Road, I a.fst.Rules.Supply, I a.fst.Rules.Turns, I a.fst.Map.Width, I a.fst.Map.Height, slc cI a.fst.Map.Terrain, slc cI a.fst.Map.Rivers, slc cI a.fst.Map.Roads], AV.agg [I a.snd.fst.Turn, I a.snd.fst.Weather, slc cUnit a.snd.fst.Units], I a.snd.snd.fst, slc cI a.snd.snd.snd.fst, slc cI a.snd.snd.snd.snd] := fun a b h => by
  injection h with h
  injection h with h1 h
  injection h with h2 h
  injection h with h3 h
  injection h with h4 h
  injection h with h5 h
  injection h3 with h3
  injection h3 with _ h3
  exact Prod.ext (inj_board _ _ h1) (Prod.ext (inj_state _ _ h2) (Prod.ext h3 (Prod.ext (slc_inj ok_cI _ _ h4) (slc_inj ok_cI _ _ h5))))
theorem supPath_len {b : DBoard} (hn : BoardN b) (s : DState) (k : Int) (src : List Int) : (supPathL b s k src).1.length ≤ 21 ∧ ((supPathL b s k src).2 = true → 1 ≤ (supPathL b s k src).1.length) := by
  unfold supPathL
  by_cases hg : supB b s k src = true
  · obtain ⟨u, h⟩ := SupG.of hg hn
    rw [if_pos hg, h.hu, Option.getD_some]
    by_cases hw : 0 ≤ wayL b s.Units src u
    · obtain ⟨w, w1, w2, w3⟩ := way_ok h hw
      have hsu := sup_small h.g.bg
      rw [if_pos hw]
      dsimp only
      rw [wayW_len]
      exact ⟨by omega, fun _ => by omega⟩
    · rw [if_neg hw]; simp
  · rw [if_neg hg]; simp
theorem o_spec_DrawCheckSupplyPath (x : KSl) (h : Arg x) : ∃ v, A_spec_DrawCheckSupplyPath x = some (en_spec_DrawCheckSupplyPath v) ∧ (BoardN v.1 ∧ v.2.1.Units.length ≤ 20 ∧ v.2.2.2.1.length ≤ 20 ∧ v.2.2.2.2.length ≤ 100) := by
  refine okA (e_spec_DrawCheckSupplyPath _) ?_
  unfold P_spec_DrawCheckSupplyPath
  refine ko_spec_l1Cur_game _ (o_spec_l1Cur_game _ 0 h.cu (by unfold Far; omega)) fun r hr => ?_
  obtain ⟨⟨b, s⟩, c1⟩ := r
  obtain ⟨hb, hu0, hu1, hc1⟩ := hr
  dsimp only at hb hu0 hu1 hc1 ⊢
  refine OK.cast inj_state (a := s) (gvState' rfl rfl) ?_
  refine ko_spec_l1Cur_unitIn _ _ (o_spec_l1Cur_unitIn _ _ _ hc1 (by unfold Far; omega)) fun q hq => ?_
  refine OK.cast inj_state (a := s) (gvState' rfl rfl) ?_
  refine ko_spec_l1Cur_sources _ _ _ (o_spec_l1Cur_sources _ _ _ hb hu1 _ hq (by unfold Far; omega)) fun v hv => ?_
  rw [gd_eq imm_cI]
  refine OK.cast inj_state (a := s) (gvState' rfl rfl) ?_
  refine OK.cast (slc_inj ok_cI) (a := v.1.1) (gvPart ok_cI rfl) ?_
  have hp := supPath_len hb s q.1 v.1.1
  rw [k_spec_SupplyPath _ _ _ _ (c_spec_SupplyPath b s q.1 v.1.1 hb (by omega))]
  generalize supPathL b s q.1 v.1.1 = p at hp ⊢
  obtain ⟨path, ok⟩ := p
  obtain ⟨hp1, hp2⟩ := hp
  dsimp only at hp1 hp2 ⊢
  rw [gd_eq imm_cI]
  cases ok with
  | false =>
    rw [if_pos (by simp)]
    refine ko_spec_l1Cur_pick _ _ (o_spec_l1Cur_pick _ _ _ hv.2 (by unfold Far; omega)) fun p1 h1 => ?_
    refine ko_spec_l1Cur_pick _ _ (o_spec_l1Cur_pick _ _ _ h1.2.2 (by unfold Far; omega)) fun p2 h2 => ?_
    exact OK.cast inj_bsill (a := (b, s, q.1, v.1.1, [p1.1, p2.1])) (gvTup (gvVs_cons rfl (gvVs_cons (gvState' rfl rfl) (gvVs_cons rfl (gvVs_cons (gvPart ok_cI rfl) (gvVs_cons rfl rfl)))))) (OK.some ⟨(b, s, q.1, v.1.1, [p1.1, p2.1]), rfl, hb, hu1, hv.1, by simp⟩)
  | true =>
    have hp2 := hp2 rfl
    rw [if_neg (by simp)]
    refine ko_spec_l1Cur_pick _ _ (o_spec_l1Cur_pick _ _ _ hv.2 (by unfold Far; omega)) fun p1 h1 => ?_
    refine OK.ite (fun _ => ?_) (fun _ => OK.ite (fun _ => ?_) (fun _ => ?_))
    · refine ko_spec_l1Cur_pick _ _ (o_spec_l1Cur_pick _ _ _ h1.2.2 (by unfold Far; omega)) fun p2 h2 => ?_
      refine OK.cast (slc_inj ok_cI) (a := [-1, 0, 5, 100]) rfl ?_
      refine ko_spec_l1Cur_among _ _ (o_spec_l1Cur_among _ _ _ h2.2.2 (by unfold Far; omega) (by simp)) fun p3 h3 => ?_
      obtain ⟨m, hm⟩ : ∃ m : Nat, p2.1 = m := ⟨p2.1.toNat, by omega⟩
      have hml : m < path.length := by omega
      rw [hm, oxA_at rt_cI rfl hml, stF (f := 0) (off := m * 1) ok_cI rfl rfl (List.getElem?_eq_getElem hml) rfl (by omega) rfl (y' := p3.1) rfl]
      exact OK.cast inj_bsill (a := (b, s, q.1, v.1.1, path.set m p3.1)) (gvTup (gvVs_cons rfl (gvVs_cons (gvState' rfl rfl) (gvVs_cons rfl (gvVs_cons (gvPart ok_cI rfl) (gvVs_cons (by rw [show path.length = (path.set m p3.1).length from (List.length_set ..).symm]; exact giveV_at ok_cI rfl) rfl)))))) (OK.some ⟨(b, s, q.1, v.1.1, path.set m p3.1), rfl, hb, hu1, hv.1, by simp; omega⟩)
    · obtain ⟨y, r, rfl⟩ : ∃ y r, path = y :: r := by
        cases path with
        | nil => simp at hp2
        | cons y r => exact ⟨y, r, rfl⟩
      rw [oxA_at rt_cI (i := 0) (j := 0) rfl (show 0 < (y :: r).length from Nat.zero_lt_succ r.length)]
      refine OK.eq (ld_at (E := tI) rfl rfl ok_cI (fun _ => rfl) (l := y :: r) (j := 0) rfl rfl rfl _) ?_
      rw [apR_eq rt_cI (l := [y]) (xs := y :: r) (n := 1) rfl (Src.row ok_cI rfl rfl) rfl rfl (by simp only [List.length_cons, List.length_nil] at hp1 ⊢; omega) (by simp only [List.length_cons, List.length_nil] at hp1 ⊢; omega) rfl]
      exact OK.cast inj_bsill (a := (b, s, q.1, v.1.1, [y] ++ y :: r)) (gvTup (gvVs_cons rfl (gvVs_cons (gvState' rfl rfl) (gvVs_cons rfl (gvVs_cons (gvPart ok_cI rfl) (gvVs_cons (giveV_at ok_cI rfl) rfl)))))) (OK.some ⟨(b, s, q.1, v.1.1, [y] ++ y :: r), rfl, hb, hu1, hv.1, by simp at hp1 ⊢; omega⟩)
    · exact OK.cast inj_bsill (a := (b, s, q.1, v.1.1, path)) (gvTup (gvVs_cons rfl (gvVs_cons (gvState' rfl rfl) (gvVs_cons rfl (gvVs_cons (gvPart ok_cI rfl) (gvVs_cons (giveV_at ok_cI rfl) rfl)))))) (OK.some ⟨(b, s, q.1, v.1.1, path), rfl, hb, hu1, hv.1, by simp; omega⟩)
/-! the law of supply -/
def chkPL (b : DBoard) (s : DState) (k : Int) (src path : List Int) : Bool × Bool := if supB b s k src then (chkL b s ((getI s.Units k).getD zU) src path, true) else (false, false)
theorem cp_impl_CheckSupplyPath (b : DBoard) (s : DState) (k : Int) (src path : List Int) (hn : BoardN b) (hs : s.Units.length < 1000000000000) (hp : path.length ≤ 100) : A_impl_CheckSupplyPath b s k src path = some (en_impl_CheckSupplyPath (chkPL b s k src path)) := by
  unfold chkPL
  cases hg : supB b s k src with
  | false =>
    apply e_impl_CheckSupplyPath
    unfold P_impl_CheckSupplyPath
    rw [k_impl_isSupply _ _ _ _ (c_impl_isSupply _ _ _ _ hn hs), hg]
    rfl
  | true =>
    obtain ⟨u, h⟩ := SupG.of hg hn
    rw [if_pos rfl, h.hu, Option.getD_some]
    exact c_impl_CheckSupplyPath b s k src path u h hn hs hg hp
theorem cp_spec_CheckSupplyPath (b : DBoard) (s : DState) (k : Int) (src path : List Int) (hn : BoardN b) (hs : s.Units.length < 1000000000000) (hp : path.length ≤ 100) : A_spec_CheckSupplyPath b s k src path = some (en_spec_CheckSupplyPath (chkPL b s k src path)) := by
  unfold chkPL
  cases hg : supB b s k src with
  | false =>
    apply e_spec_CheckSupplyPath
    unfold P_spec_CheckSupplyPath
    rw [k_spec_jInput _ _ _ _ (c_spec_jInput _ _ _ _ hn hs), hg]
    rfl
  | true =>
    obtain ⟨u, h⟩ := SupG.of hg hn
    rw [if_pos rfl, h.hu, Option.getD_some]
    exact c_spec_CheckSupplyPath b s k src path u h hn hs hg hp
theorem l_laws_FnSupply_L23 (s : DState) (k : Int) (path cut : List Int) (u : DUnit) (hu : getI s.Units k = some u) (hp : path.length ≤ 21) (hc : cut.length ≤ 100) (h1 : ∀ x ∈ cut, x ∈ path) (h2 : u.At ∈ cut) :
    L_laws_FnSupply_L23 s k path cut cut cut.length 0 = some (B true, []) := by
  refine (alli_loop2 (fun i => L_laws_FnSupply_L23 s k path cut cut cut.length i) cut (fun _ _ => true) (some (B true, [])) none ?_ (fun i x hx hi _ => ?_)) _ ?_
  · intro r hr
    apply e_laws_FnSupply_L23
    unfold P_laws_FnSupply_L23
    have : (cut.any fun x => x == u.At) = true := by rw [List.any_eq_true]; exact ⟨_, h2, by simp⟩
    rw [if_neg (by simp), ixA_get sl_cUnit _ _ hu, k_laws_qHas _ _ (c_laws_qHas _ _ (by omega)), this]
    exact hr
  · intro r hr
    apply e_laws_FnSupply_L23
    unfold P_laws_FnSupply_L23
    have : (path.any fun y => y == x) = true := by rw [List.any_eq_true]; exact ⟨_, h1 x (mem_of_get hx), by simp⟩
    rw [if_pos (by simpa using hi), ixA_at sl_cI rfl hx, k_laws_qHas _ _ (c_laws_qHas _ _ (by omega)), this, if_neg (by simp), wrap_id (by omega) (by omega)]
    simpa using hr
  · rw [if_pos (alli_of fun _ _ _ => rfl)]
theorem law_laws_FnSupply (code more : KSl) (hc : Arg code) (hm : Arg more) : A_laws_FnSupply code more = some (B true, []) := by
  have key : OK (P_laws_FnSupply code more) fun r => r = (B true, []) := by
    unfold P_laws_FnSupply
    refine OK.ite (fun _ => OK.some rfl) (fun _ => ?_)
    refine ko_spec_DrawSupplyPath _ (o_spec_DrawSupplyPath _ hc) fun v hv => ?_
    obtain ⟨b, s, k, src⟩ := v
    obtain ⟨hn, hu, hq⟩ := hv
    dsimp only at hn hu hq ⊢
    have hpl := supPath_len hn s k src
    rw [k_impl_SupplyPath _ _ _ _ (c_impl_SupplyPath _ _ _ _ hn (by omega)), k_spec_SupplyPath _ _ _ _ (c_spec_SupplyPath _ _ _ _ hn (by omega))]
    refine ko_spec_DrawCheckSupplyPath _ (o_spec_DrawCheckSupplyPath _ hm) fun w hw => ?_
    obtain ⟨c, t, v, from_, p⟩ := w
    obtain ⟨hn2, hu2, hq2, hp2⟩ := hw
    dsimp only at hn2 hu2 hq2 hp2 ⊢
    rw [k_impl_CheckSupplyPath _ _ _ _ _ (cp_impl_CheckSupplyPath _ _ _ _ _ hn2 (by omega) hp2), k_spec_CheckSupplyPath _ _ _ _ _ (cp_spec_CheckSupplyPath _ _ _ _ _ hn2 (by omega) hp2)]
    rw [if_neg (by simp), cast_of (slc_inj ok_cI) (giveV_at ok_cI rfl), k_laws_qInts _ _ (c_laws_qInts _ (by omega)), if_neg (by simp), if_neg (by simp), if_neg (by simp)]
    have hin : (chkPL c t v from_ p).2 = true → (chkPL c t v from_ p).1 = true → A_impl_InSupply c t v from_ = some (en_impl_InSupply (true, true)) := fun h2 h1 => by
      unfold chkPL at h1 h2
      by_cases hg : supB c t v from_ = true
      · obtain ⟨u, h⟩ := SupG.of hg hn2
        rw [if_pos hg, h.hu, Option.getD_some] at h1
        have hw := chk_in h h1
        have hgb : gameB c t = true := by unfold supB at hg; simp only [Bool.and_eq_true] at hg; exact hg.1.1
        have := c_impl_InSupply c t v from_ hn2 (by omega) hgb h.q h.hu h.m
        rwa [decide_eq_true hw] at this
      · rw [if_neg hg] at h2; cases h2
    by_cases hok : (supPathL b s k src).2 = true
    · have hg : supB b s k src = true := by
        unfold supPathL at hok
        cases hg : supB b s k src with
        | true => rfl
        | false => rw [hg] at hok; cases hok
      obtain ⟨u, h⟩ := SupG.of hg hn
      have hwy : 0 ≤ wayL b s.Units src u := by
        unfold supPathL at hok
        rw [if_pos hg, h.hu, Option.getD_some] at hok
        by_cases hw : 0 ≤ wayL b s.Units src u
        · exact hw
        · rw [if_neg hw] at hok; cases hok
      obtain ⟨w, w1, w2, w3⟩ := way_ok h hwy
      have hsu := sup_small h.g.bg
      have hab := area_b h.g.bg
      have e1 : supPathL b s k src = (wayW b.Map (opL b s u) src u.At (wayL b s.Units src u), true) := by unfold supPathL; rw [if_pos hg, h.hu, Option.getD_some, if_pos hwy]
      have e2 : cutHL b s k src = (cutsL b (opL b s u) src u.At, true) := by unfold cutHL; rw [if_pos hg, h.hu, Option.getD_some, if_pos hwy]
      have e3 : supMarL b s k src = (b.Rules.Supply - wayL b s.Units src u, true) := by unfold supMarL; rw [if_pos hg, h.hu, Option.getD_some, if_pos hwy]
      have e4 : chkPL b s k src (wayW b.Map (opL b s u) src u.At (wayL b s.Units src u)) = (true, true) := by unfold chkPL; rw [if_pos hg, h.hu, Option.getD_some, way_chk h hwy]
      rw [e1] at hpl ⊢
      dsimp only at hpl ⊢
      have hlen := wayW_len b.Map (opL b s u) src u.At (wayL b s.Units src u)
      have hcl : (cutsL b (opL b s u) src u.At).length ≤ 100 := Nat.le_trans (colI_len ..) hab.2
      have f1 : A_impl_CheckSupplyPath b s k src (wayW b.Map (opL b s u) src u.At (wayL b s.Units src u)) = some (en_impl_CheckSupplyPath (true, true)) := by rw [← e4]; exact cp_impl_CheckSupplyPath _ _ _ _ _ hn (by omega) (by omega)
      have f2 : A_impl_SupplyMargin b s k src = some (en_impl_SupplyMargin (b.Rules.Supply - wayL b s.Units src u, true)) := by rw [← e3]; exact c_impl_SupplyMargin _ _ _ _ hn (by omega)
      have f3 : A_impl_CutHexes b s k src = some (en_impl_CutHexes (cutsL b (opL b s u) src u.At, true)) := by rw [← e2]; exact c_impl_CutHexes _ _ _ _ hn (by omega)
      have f4 := l_laws_FnSupply_L23 s k (wayW b.Map (opL b s u) src u.At (wayL b s.Units src u)) (cutsL b (opL b s u) src u.At) u h.hu hpl.1 hcl (fun x hx => cuts_on w w1 w2 (op_len ..) hx) (cuts_own w (op_len ..))
      have f5 : (b.Rules.Supply - wayL b s.Units src u != IntKind.wrap IntKind.i64 (IntKind.wrap IntKind.i64 (b.Rules.Supply + 1) - ((wayW b.Map (opL b s u) src u.At (wayL b s.Units src u)).length : Int))) = false := by
        rw [wrap_id (n := b.Rules.Supply + 1) (by omega) (by omega), wrap_id (by omega) (by omega), bne_eq_false_iff_eq, hlen]
        omega
      refine OK.ite (fun h2 => OK.ite (fun h1 => ?_) (fun _ => ?_)) (fun _ => ?_)
      · rw [k_impl_InSupply _ _ _ _ (hin h2 h1), if_neg (by simp), if_neg (by simp), if_neg (by simp), k_impl_CheckSupplyPath _ _ _ _ _ f1, k_impl_SupplyMargin _ _ _ _ f2, k_impl_CutHexes _ _ _ _ f3, if_neg (by simp), if_neg (by simp), if_neg (by simp), if_neg (by simp), if_neg (by rw [f5]; simp)]
        exact ⟨_, f4, rfl⟩
      · rw [if_neg (by simp), k_impl_CheckSupplyPath _ _ _ _ _ f1, k_impl_SupplyMargin _ _ _ _ f2, k_impl_CutHexes _ _ _ _ f3, if_neg (by simp), if_neg (by simp), if_neg (by simp), if_neg (by simp), if_neg (by rw [f5]; simp)]
        exact ⟨_, f4, rfl⟩
      · rw [if_neg (by simp), k_impl_CheckSupplyPath _ _ _ _ _ f1, k_impl_SupplyMargin _ _ _ _ f2, k_impl_CutHexes _ _ _ _ f3, if_neg (by simp), if_neg (by simp), if_neg (by simp), if_neg (by simp), if_neg (by rw [f5]; simp)]
        exact ⟨_, f4, rfl⟩
    · have hok : (supPathL b s k src).2 = false := by simpa using hok
      rw [hok]
      refine OK.ite (fun h2 => OK.ite (fun h1 => ?_) (fun _ => ?_)) (fun _ => ?_)
      · rw [k_impl_InSupply _ _ _ _ (hin h2 h1), if_neg (by simp), if_neg (by simp), if_pos (by simp)]
        exact OK.some rfl
      · rw [if_pos (by simp)]
        exact OK.some rfl
      · rw [if_pos (by simp)]
        exact OK.some rfl
  obtain ⟨r, h1, rfl⟩ := key
  exact e_laws_FnSupply _ _ _ h1
end Go.Ev
