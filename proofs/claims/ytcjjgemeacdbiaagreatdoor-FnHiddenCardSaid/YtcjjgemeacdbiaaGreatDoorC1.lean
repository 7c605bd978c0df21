/-
 C1: one of the texts behind a proof of laws.FnHidden: what the functions answer
 Its conditions: none of its own.
-/
import Derived.Test.YtcjjgemeacdbiaaGreatDoorP2
import Derived.Test.YtcjjgemeacdbiaaGreatDoorP3
import Derived.Test.YtcjjgemeacdbiaaGreatDoorP4
set_option maxRecDepth 100000
set_option linter.unusedVariables false
set_option linter.unusedSectionVars false
set_option linter.unusedSimpArgs false
set_option linter.unnecessarySimpa false
namespace Go.Ev
open Go Go.Proofs
variable [Inhabited Known]
theorem c_spec_l1In (n lo hi : Int) : A_spec_l1In n lo hi = some (en_spec_l1In (decide (lo ≤ n) && decide (n ≤ hi))) := by
 apply e_spec_l1In
 unfold en_spec_l1In
 by_cases h : lo ≤ n <;> simp [h]
theorem c_impl_inRange (n lo hi : Int) : A_impl_inRange n lo hi = some (en_impl_inRange (decide (lo ≤ n) && decide (n ≤ hi))) := by
 apply e_impl_inRange
 unfold en_impl_inRange
 by_cases h : lo ≤ n <;> simp [h]
def inB (lo hi n : Int) : Bool := decide (lo ≤ n) && decide (n ≤ hi)
theorem kk_spec_l1In {γ : Type} (n lo hi : Int) (k : Bool → Option γ) : cast en_spec_l1In (A_spec_l1In n lo hi) k = k (inB lo hi n) := cast_of inj_spec_l1In (c_spec_l1In _ _ _) k
theorem kk_impl_inRange {γ : Type} (n lo hi : Int) (k : Bool → Option γ) : cast en_impl_inRange (A_impl_inRange n lo hi) k = k (inB lo hi n) := cast_of inj_impl_inRange (c_impl_inRange _ _ _) k
theorem c_spec_l1All (l : List Int) (lo hi : Int) (hl : l.length < 1000000000000) : A_spec_l1All l lo hi = some (en_spec_l1All (l.all (inB lo hi))) := by
 apply e_spec_l1All
 refine list_loop (fun i (_ : Unit) => L_spec_l1All_L2 lo hi l l.length i) l (fun r _ => some (en_spec_l1All (r.all (inB lo hi)))) (fun _ => ?_) (fun pre x post _ h ih => ?_) ()
 ·apply e_spec_l1All_L2
  simp [en_spec_l1All]
 ·apply e_spec_l1All_L2
  have hlt := mid_lt h
  rw [if_pos (by simpa using hlt), ixA_at sl_cI rfl (mid_get h), kk_spec_l1In, wrap_id (by omega) (by omega), ih ()]
  cases hb : inB lo hi x <;> simp [hb, en_spec_l1All]
theorem c_impl_isIndex (i m : Int) (h0 : -1000000000000 < m) (h1 : m < 1000000000000) : A_impl_isIndex i m = some (en_impl_isIndex (inB 0 (m - 1) i)) := by
 apply e_impl_isIndex
 rw [kk_impl_inRange, wrap_id (by omega) (by omega)]
 rfl
theorem c_impl_sizeOf (b : DBoard) : A_impl_sizeOf b = some (en_impl_sizeOf b.Map.Terrain.length) := by
 apply e_impl_sizeOf
 rfl
theorem c_spec_mSize (m : DMap) : A_spec_mSize m = some (en_spec_mSize (IntKind.wrap .i64 (m.Width * m.Height))) := by
 apply e_spec_mSize
 rfl
def absI (n : Int) : Int := if n < 0 then -n else n
theorem c_spec_l1Most (a b : Int) : A_spec_l1Most a b = some (en_spec_l1Most (if b < a then a else b)) := by
 apply e_spec_l1Most
 unfold en_spec_l1Most
 by_cases h : b < a <;> simp [h]
theorem c_spec_l1Abs (n : Int) (h0 : -1000000000000 < n) (h1 : n < 1000000000000) : A_spec_l1Abs n = some (en_spec_l1Abs (absI n)) := by
 apply e_spec_l1Abs
 unfold en_spec_l1Abs absI
 rw [wrap_id (by omega) (by omega), cast_of inj_spec_l1Most (c_spec_l1Most _ _)]
 by_cases h : n < 0
 ·rw [if_neg (by omega), if_pos h, show 0 - n = -n by omega]
 ·by_cases h2 : 0 - n < n
  ·rw [if_pos h2, if_neg h]
  ·rw [if_neg h2, if_neg h, show 0 - n = n by omega]
def lowB (b : UInt8) : Bool := decide (97 ≤ (b.toNat : Int)) && decide ((b.toNat : Int) ≤ 122)
def nameB (s : ByteArray) : Bool := s.data.toList.all lowB && inB 1 8 s.size
theorem c_spec_rName (s : ByteArray) (hs : s.size < 1000000000000) : A_spec_rName s = some (en_spec_rName (nameB s)) := by
 apply e_spec_rName
 refine list_loop (fun i (_ : Unit) => L_spec_rName_L2 s i) s.data.toList (fun r _ => some (en_spec_rName (r.all lowB && inB 1 8 s.size))) (fun _ => ?_) (fun pre x post _ h ih => ?_) ()
 ·apply e_spec_rName_L2
  rw [if_neg (by simp), kk_spec_l1In]
  simp [en_spec_rName]
 ·apply e_spec_rName_L2
  have hlt := mid_lt h
  have hsz : (s.data.toList.length : Int) = s.size := by simp
  rw [if_pos (by simp only [decide_eq_true_eq]; omega), ixS_at str_ok rfl (mid_get h), ixS_at str_ok rfl (mid_get h), wrap_id (by omega) (by omega), ih ()]
  by_cases h1 : (x.toNat : Int) < 97
  ·simp [h1, lowB, en_spec_rName, show ¬ (97 ≤ (x.toNat : Int)) by omega]
  ·by_cases h2 : (122 : Int) < x.toNat
   ·simp [h1, h2, lowB, en_spec_rName, show ¬ ((x.toNat : Int) ≤ 122) by omega]
   ·simp [h1, h2, lowB, en_spec_rName, show (97 ≤ (x.toNat : Int)) by omega, show ((x.toNat : Int) ≤ 122) by omega]
theorem c_impl_isName (s : ByteArray) (hs : s.size < 1000000000000) : A_impl_isName s = some (en_impl_isName (nameB s)) := by
 apply e_impl_isName
 refine list_loop (fun i (_ : Unit) => L_impl_isName_L2 s i) s.data.toList (fun r _ => some (en_impl_isName (r.all lowB && inB 1 8 s.size))) (fun _ => ?_) (fun pre x post _ h ih => ?_) ()
 ·apply e_impl_isName_L2
  rw [if_neg (by simp), kk_impl_inRange]
  simp [en_impl_isName]
 ·apply e_impl_isName_L2
  have hlt := mid_lt h
  have hsz : (s.data.toList.length : Int) = s.size := by simp
  rw [if_pos (by simp only [decide_eq_true_eq]; omega), ixS_at str_ok rfl (mid_get h), ixS_at str_ok rfl (mid_get h), wrap_id (by omega) (by omega), ih ()]
  by_cases h1 : (x.toNat : Int) < 97
  ·simp [h1, lowB, en_impl_isName, show ¬ (97 ≤ (x.toNat : Int)) by omega]
  ·by_cases h2 : (122 : Int) < x.toNat
   ·simp [h1, h2, lowB, en_impl_isName, show ¬ ((x.toNat : Int) ≤ 122) by omega]
   ·simp [h1, h2, lowB, en_impl_isName, show (97 ≤ (x.toNat : Int)) by omega, show ((x.toNat : Int) ≤ 122) by omega]
theorem c_spec_l1Has (l : List Int) (n : Int) (hl : l.length < 1000000000000) : A_spec_l1Has l n = some (en_spec_l1Has (decide (n ∈ l))) := by
 apply e_spec_l1Has
 refine list_loop (fun i (_ : Unit) => L_spec_l1Has_L2 n l l.length i) l (fun r _ => some (en_spec_l1Has (decide (n ∈ r)))) (fun _ => ?_) (fun pre x post _ h ih => ?_) ()
 ·apply e_spec_l1Has_L2
  simp [en_spec_l1Has]
 ·apply e_spec_l1Has_L2
  have hlt := mid_lt h
  rw [if_pos (by simpa using hlt), ixA_at sl_cI rfl (mid_get h), wrap_id (by omega) (by omega), ih ()]
  by_cases hx : x = n
  ·simp [hx, en_spec_l1Has]
  ·simp [hx, en_spec_l1Has, show ¬ n = x from fun e => hx e.symm]
def risingB : List Int → Bool
 | [] => true
 | [_] => true
 | a :: b :: r => decide (a < b) && risingB (b :: r)
theorem risingB_snoc (b : Int) : ∀ (l : List Int) (a : Int), risingB (l ++ [a, b]) = (risingB (l ++ [a]) && decide (a < b))
 | [], a => by simp [risingB]
 | [x], a => by simp [risingB, Bool.and_comm]
 | x :: y :: r, a => by
  have := risingB_snoc b (y :: r) a
  simp only [List.cons_append, risingB] at this ⊢
  rw [this, Bool.and_assoc]
theorem risingB_pre (p : List Int) (x : Int) (r : List Int) (h : risingB (p ++ [x]) = false) : risingB (p ++ x :: r) = false := by
 induction p with
 | nil => simp [risingB] at h
 | cons a q ih =>
  cases q with
  | nil =>
   simp only [List.cons_append, List.nil_append, risingB, Bool.and_true] at h ⊢
   rw [h]; rfl
  | cons b q =>
   simp only [List.cons_append, risingB, Bool.and_eq_false_iff] at h ih ⊢
   rcases h with h | h
   ·exact .inl h
   ·exact .inr (ih h)
theorem c_spec_l1Rising (l : List Int) (lo hi : Int) (hl : l.length < 1000000000000) : A_spec_l1Rising l lo hi = some (en_spec_l1Rising (l.all (inB lo hi) && risingB l)) := by
 apply e_spec_l1Rising
 refine (list_loop2 (fun i => L_spec_l1Rising_L2 l lo hi l l.length i) l (fun pre => risingB pre = true) (fun pre post => some (en_spec_l1Rising (post.all (inB lo hi) && risingB (pre ++ post)))) (fun hr => ?_) (fun pre x post h hr ih => ?_) rfl).trans (by simp)
 ·apply e_spec_l1Rising_L2
  simp [en_spec_l1Rising, hr]
 ·apply e_spec_l1Rising_L2
  have hlt := mid_lt h
  have w1 := wrap_id (n := (pre.length : Int) + 1) (by omega) (by omega)
  have w2 := wrap_id (n := (pre.length : Int) - 1) (by omega) (by omega)
  rw [if_pos (by simpa using hlt), ixA_at sl_cI rfl (mid_get h), kk_spec_l1In, w1, w2]
  cases hb : inB lo hi x
  ·simp [hb, en_spec_l1Rising]
  ·rcases snoc_cases pre with rfl | ⟨p, y, rfl⟩
   ·rw [if_neg (by simp), if_neg (by simp), ih rfl]
    simp [hb]
   ·have hy : l[p.length]? = some y := by rw [h]; simp
    rw [if_neg (by simp), if_pos (by simp), ixA_at sl_cI (by simp) hy]
    by_cases hxy : x ≤ y
    ·have hf : risingB (p ++ [y, x]) = false := by rw [risingB_snoc]; simp [show ¬ y < x by omega]
     have := risingB_pre (p ++ [y]) x post (by simpa using hf)
     simp only [List.append_assoc, List.cons_append, List.nil_append] at this
     simp [hxy, en_spec_l1Rising, this]
    ·rw [if_neg (by simpa using hxy)]
     have ht : risingB ((p ++ [y]) ++ [x]) = true := by
      have := risingB_snoc x p y
      simp only [List.append_assoc, List.cons_append, List.nil_append] at this ⊢
      rw [this]
      simp [hr, show y < x by omega]
     rw [ih ht]
     simp [hb]
def sAtL (us : List DUnit) (i side : Int) : List Int := ((us.zipIdx).filter fun p => p.1.At == i && p.1.Side == side).map fun p => (p.2 : Int)
theorem c_spec_sAt (s : DState) (i side : Int) (hl : s.Units.length < 1000000000000) : A_spec_sAt s i side = some (en_spec_sAt (sAtL s.Units i side)) := by
 apply e_spec_sAt
 have key := list_loop (fun j (b : List Int × List DUnit) => if b.1.length ≤ b.2.length ∧ (b.2.length : Int) = j then L_spec_sAt_L3 b.1 i side s.Units s.Units.length j else none) s.Units (fun r b => if b.1.length ≤ b.2.length ∧ b.2.length + r.length = s.Units.length then some (en_spec_sAt (b.1 ++ ((r.zipIdx b.2.length).filter fun p => p.1.At == i && p.1.Side == side).map fun p => (p.2 : Int))) else none) ?_ ?_ ([], [])
 ·simpa [sAtL] using key
 ·intro b
  by_cases hb : b.1.length ≤ b.2.length ∧ (b.2.length : Int) = s.Units.length
  ·rw [if_pos hb, if_pos (by simp; omega)]
   apply e_spec_sAt_L3
   rw [if_neg (by simp), give_at ok_cI rfl]
   simp [en_spec_sAt]
  ·rw [if_neg hb, if_neg (by simp; omega)]
 ·intro pre x post b h ih
  have hlt := mid_lt h
  have hlen : s.Units.length = pre.length + 1 + post.length := by rw [h]; simp; omega
  by_cases hb : b.1.length ≤ b.2.length ∧ (b.2.length : Int) = pre.length
  ·rw [if_pos hb, if_pos (by simp; omega)]
   apply e_spec_sAt_L3
   have ih1 := ih (b.1 ++ [(pre.length : Int)], b.2 ++ [x])
   have ih2 := ih (b.1, b.2 ++ [x])
   rw [if_pos (by simp; omega), if_pos (by simp; omega)] at ih1 ih2
   have hbl : b.2.length = pre.length := by omega
   rw [if_pos (by simpa using hlt), ixA_at sl_cUnit rfl (mid_get h), wrap_id (by omega) (by omega)]
   rw [List.zipIdx_cons, List.filter_cons]
   by_cases h1 : x.At = i
   ·by_cases h2 : x.Side = side
    ·rw [if_pos (by simpa using h1), if_pos (by simpa using h2), apR_eq rt_cI rfl (xs := [(pre.length : Int)]) (Src.row (n := 1) ok_cI rfl rfl) rfl rfl (by simp; omega) (by simp; omega) rfl, ih1]
     simp [h1, h2, hbl]
    ·rw [if_pos (by simpa using h1), if_neg (by simpa using h2), ih2]
     simp [h1, h2, hbl]
   ·rw [if_neg (by simpa using h1), ih2]
    simp [h1, hbl]
  ·rw [if_neg hb, if_neg (by simp; omega)]
def sm (n : Int) : Prop := -1000000000000 < n ∧ n < 1000000000000
def hexL (m : DMap) (i : Int) : DHex := { Q := Int.tmod i m.Width, R := Int.tdiv i m.Width }
def dq : List Int := [1, 1, 0, -1, -1, 0]
def dr : List Int := [0, -1, -1, 0, 1, 1]
def dirs : List DHex := [{ Q := 1, R := 0 }, { Q := 1, R := -1 }, { Q := 0, R := -1 }, { Q := -1, R := 0 }, { Q := -1, R := 1 }, { Q := 0, R := 1 }]
def nthI (l : List Int) (d : Int) : Int := l.getD d.toNat 0
def stepL (h : DHex) (d n : Int) : DHex := { Q := h.Q + n * nthI dq d, R := h.R + n * nthI dr d }
def idxL (m : DMap) (h : DHex) : Int := if inB 0 (m.Width - 1) h.Q && inB 0 (m.Height - 1) h.R then h.R * m.Width + h.Q else -1
def nextL (m : DMap) (i d : Int) : Int := idxL m (stepL (hexL m i) d 1)
def edgeL (m : DMap) (i d : Int) : Int := if d < 3 then 3 * i + d else 3 * nextL m i d + d - 3
theorem tdiv_sm {i w : Int} (hi : sm i) : sm (Int.tdiv i w) := by
 have h1 := Int.natAbs_tdiv_le_natAbs i w
 unfold sm at *
 omega
structure MapB (m : DMap) : Prop where
 w0 : 0 < m.Width
 w1 : m.Width ≤ 1000000
 h0 : -1000000 ≤ m.Height
 h1 : m.Height ≤ 1000000
theorem tmod_b {m : DMap} (h : MapB m) (i : Int) : -1000000 < Int.tmod i m.Width ∧ Int.tmod i m.Width < 1000000 := by
 have h1 := Int.tmod_lt_of_pos i h.w0
 have h2 := Int.lt_tmod_of_pos i h.w0
 have := h.w1
 omega
theorem inB_iff {lo hi n : Int} : inB lo hi n = true ↔ lo ≤ n ∧ n ≤ hi := by simp [inB]
theorem idxL_b {m : DMap} (hm : MapB m) (h : DHex) : -1 ≤ idxL m h ∧ idxL m h < 1000000000000 := by
 unfold idxL
 split
 ·rename_i h1
  simp only [Bool.and_eq_true, inB_iff] at h1
  obtain ⟨⟨a, b⟩, c, d⟩ := h1
  have w1 := hm.w1
  have h2 := hm.h1
  have : h.R * m.Width ≤ 999999 * m.Width := Int.mul_le_mul_of_nonneg_right (by omega) (by omega)
  have : 0 ≤ h.R * m.Width := Int.mul_nonneg c (by omega)
  omega
 ·omega
theorem c_impl_hexOf (m : DMap) (i : Int) (hm : MapB m) (hi : sm i) : A_impl_hexOf m i = some (en_impl_hexOf (hexL m i)) := by
 apply e_impl_hexOf
 have := tdiv_sm (w := m.Width) hi
 have h0 := hm.w0
 unfold sm at this
 rw [if_neg (by omega), if_neg (by omega), wrap_id (by omega) (by omega)]
 rfl
theorem c_spec_mHex (m : DMap) (i : Int) (hm : MapB m) (hi : sm i) : A_spec_mHex m i = some (en_spec_mHex (hexL m i)) := by
 apply e_spec_mHex
 have := tdiv_sm (w := m.Width) hi
 have h0 := hm.w0
 unfold sm at this
 rw [if_neg (by omega), if_neg (by omega), wrap_id (by omega) (by omega)]
 rfl
theorem dirs_q {d : Int} (h0 : 0 ≤ d) (h1 : d < 6) : ∃ x, getI dirs d = some x ∧ x.Q = nthI dq d ∧ x.R = nthI dr d ∧ -1 ≤ x.Q ∧ x.Q ≤ 1 ∧ -1 ≤ x.R ∧ x.R ≤ 1 := by
 have : d = 0 ∨ d = 1 ∨ d = 2 ∨ d = 3 ∨ d = 4 ∨ d = 5 := by omega
 rcases this with h | h | h | h | h | h <;> subst h <;> exact ⟨_, rfl, rfl, rfl, by decide, by decide, by decide, by decide⟩
theorem nd_b (d : Int) : -1 ≤ nthI dq d ∧ nthI dq d ≤ 1 ∧ -1 ≤ nthI dr d ∧ nthI dr d ≤ 1 := by
 unfold nthI
 generalize d.toNat = n
 match n with
 | 0 | 1 | 2 | 3 | 4 | 5 => decide
 | k + 6 => simp [dq, dr]
theorem dq_get {d : Int} (h0 : 0 ≤ d) (h1 : d < 6) : dq[d.toNat]? = some (nthI dq d) := by
 have : d = 0 ∨ d = 1 ∨ d = 2 ∨ d = 3 ∨ d = 4 ∨ d = 5 := by omega
 rcases this with h | h | h | h | h | h <;> subst h <;> rfl
theorem dr_get {d : Int} (h0 : 0 ≤ d) (h1 : d < 6) : dr[d.toNat]? = some (nthI dr d) := by
 have : d = 0 ∨ d = 1 ∨ d = 2 ∨ d = 3 ∨ d = 4 ∨ d = 5 := by omega
 rcases this with h | h | h | h | h | h <;> subst h <;> rfl
theorem mul_b {n x B : Int} (h0 : -1 ≤ x) (h1 : x ≤ 1) (hn : -B ≤ n ∧ n ≤ B) : -B ≤ n * x ∧ n * x ≤ B := by
 have : x = -1 ∨ x = 0 ∨ x = 1 := by omega
 rcases this with h | h | h <;> subst h <;> omega
theorem c_impl_stepBy (h : DHex) (d n : Int) (hq : sm h.Q) (hr : sm h.R) (h0 : 0 ≤ d) (h1 : d < 6) (hn : -1000000000000 ≤ n ∧ n ≤ 1000000000000) : A_impl_stepBy h d n = some (en_impl_stepBy (stepL h d n)) := by
 apply e_impl_stepBy
 obtain ⟨x, hx, h2, h3, h4⟩ := dirs_q h0 h1
 have hb1 := mul_b h4.1 h4.2.1 hn
 have hb2 := mul_b h4.2.2.1 h4.2.2.2 hn
 unfold sm at hq hr
 refine (ixA_arr rfl rfl ok_cHex (l := dirs) rfl rfl hx _).trans ?_
 refine (ixA_arr rfl rfl ok_cHex (l := dirs) rfl rfl hx _).trans ?_
 rw [wrap_id (n := n * x.Q) (by omega) (by omega), wrap_id (n := n * x.R) (by omega) (by omega), wrap_id (by omega) (by omega), wrap_id (by omega) (by omega)]
 unfold stepL
 rw [h2, h3]
 rfl
theorem c_spec_hStep (h : DHex) (d : Int) (hq : sm h.Q) (hr : sm h.R) (h0 : 0 ≤ d) (h1 : d < 6) : A_spec_hStep h d = some (en_spec_hStep (stepL h d 1)) := by
 apply e_spec_hStep
 have nb := nd_b d
 unfold sm at hq hr
 rw [oxA_at rt_cI (j := d.toNat) (by omega) (by omega)]
 refine (ld_at (E := tI) (l := dq) rfl rfl ok_cI (fun _ => rfl) rfl rfl (dq_get h0 h1) _).trans ?_
 rw [oxA_at rt_cI (j := d.toNat) (by omega) (by omega)]
 refine (ld_at (E := tI) (l := dr) rfl rfl ok_cI (fun _ => rfl) rfl rfl (dr_get h0 h1) _).trans ?_
 rw [wrap_id (by omega) (by omega), wrap_id (by omega) (by omega)]
 simp [stepL, en_spec_hStep]
theorem c_impl_indexOf (m : DMap) (h : DHex) (hm : MapB m) : A_impl_indexOf m h = some (en_impl_indexOf (idxL m h)) := by
 apply e_impl_indexOf
 have hw0 := hm.w0; have hw1 := hm.w1; have hh0 := hm.h0; have hh1 := hm.h1
 have hb := idxL_b hm h
 rw [cast_of inj_impl_isIndex (c_impl_isIndex _ _ (by omega) (by omega))]
 unfold idxL at *
 cases ha : inB 0 (m.Width - 1) h.Q with
 | false => simp [en_impl_indexOf]
 | true =>
  simp only [Bool.not_true, Bool.false_eq_true, if_false]
  rw [cast_of inj_impl_isIndex (c_impl_isIndex _ _ (by omega) (by omega))]
  cases hc : inB 0 (m.Height - 1) h.R with
  | false => simp [en_impl_indexOf]
  | true =>
   simp only [ha, hc, Bool.and_self, if_true] at hb ⊢
   rw [inB_iff] at ha hc
   simp only [Bool.not_true, Bool.false_eq_true, if_false]
   rw [wrap_id (n := h.R * m.Width) (by omega) (by omega), wrap_id (by omega) (by omega)]
   rfl
theorem c_spec_mIndex (m : DMap) (h : DHex) (hm : MapB m) : A_spec_mIndex m h = some (en_spec_mIndex (idxL m h)) := by
 apply e_spec_mIndex
 have hw0 := hm.w0; have hw1 := hm.w1; have hh0 := hm.h0; have hh1 := hm.h1
 have hb := idxL_b hm h
 rw [kk_spec_l1In, wrap_id (by omega) (by omega)]
 unfold idxL at *
 cases ha : inB 0 (m.Width - 1) h.Q with
 | false => simp [en_spec_mIndex]
 | true =>
  simp only [Bool.not_true, Bool.false_eq_true, if_false]
  rw [kk_spec_l1In, wrap_id (by omega) (by omega)]
  cases hc : inB 0 (m.Height - 1) h.R with
  | false => simp [en_spec_mIndex]
  | true =>
   simp only [ha, hc, Bool.and_self, if_true] at hb ⊢
   rw [inB_iff] at ha hc
   simp only [Bool.not_true, Bool.false_eq_true, if_false]
   rw [wrap_id (n := h.R * m.Width) (by omega) (by omega), wrap_id (by omega) (by omega)]
   rfl
theorem hexL_sm {m : DMap} (hm : MapB m) {i : Int} (hi : sm i) : sm (hexL m i).Q ∧ sm (hexL m i).R := by
 have h1 := tmod_b hm i
 refine ⟨?_, tdiv_sm hi⟩
 unfold hexL sm
 simp only
 omega
theorem nextL_b {m : DMap} (hm : MapB m) (i d : Int) : -1 ≤ nextL m i d ∧ nextL m i d < 1000000000000 := idxL_b hm _
theorem c_impl_nextTo (m : DMap) (i d : Int) (hm : MapB m) (hi : sm i) (h0 : 0 ≤ d) (h1 : d < 6) : A_impl_nextTo m i d = some (en_impl_nextTo (nextL m i d)) := by
 apply e_impl_nextTo
 have hs := hexL_sm hm hi
 rw [cast_of inj_impl_hexOf (c_impl_hexOf _ _ hm hi), cast_of inj_impl_stepBy (c_impl_stepBy _ _ _ hs.1 hs.2 h0 h1 (by omega)), cast_of inj_impl_indexOf (c_impl_indexOf _ _ hm)]
 rfl
theorem c_spec_mNext (m : DMap) (i d : Int) (hm : MapB m) (hi : sm i) (h0 : 0 ≤ d) (h1 : d < 6) : A_spec_mNext m i d = some (en_spec_mNext (nextL m i d)) := by
 apply e_spec_mNext
 have hs := hexL_sm hm hi
 rw [cast_of inj_spec_mHex (c_spec_mHex _ _ hm hi), cast_of inj_spec_hStep (c_spec_hStep _ _ hs.1 hs.2 h0 h1), cast_of inj_spec_mIndex (c_spec_mIndex _ _ hm)]
 rfl
theorem c_spec_mEdge (m : DMap) (i d : Int) (hm : MapB m) (hi : sm i) (h0 : 0 ≤ d) (h1 : d < 6) : A_spec_mEdge m i d = some (en_spec_mEdge (edgeL m i d)) := by
 apply e_spec_mEdge
 have hb := nextL_b hm i d
 have hi2 := hi
 unfold sm at hi2
 rw [cast_of inj_spec_mNext (c_spec_mNext _ _ _ hm hi h0 h1)]
 unfold edgeL
 by_cases h3 : d < 3
 ·rw [wrap_id (n := 3 * i) (by omega) (by omega), wrap_id (n := 3 * i + d) (by omega) (by omega)]
  simp [h3, en_spec_mEdge]
 ·rw [wrap_id (n := 3 * nextL m i d) (by omega) (by omega), wrap_id (n := 3 * nextL m i d + d) (by omega) (by omega), wrap_id (n := 3 * nextL m i d + d - 3) (by omega) (by omega)]
  simp [h3, en_spec_mEdge]
theorem c_impl_increasing (l : List Int) (hl : l.length < 1000000000000) : A_impl_increasing l = some (en_impl_increasing (risingB l)) := by
 apply e_impl_increasing
 cases l with
 | nil =>
  apply e_impl_increasing_L2
  simp [en_impl_increasing, risingB]
 | cons a l =>
  refine (list_loop2 (fun i => L_impl_increasing_L2 (a :: l) (i + 1)) l (fun pre => risingB (a :: pre) = true) (fun pre post => some (en_impl_increasing (risingB (a :: (pre ++ post))))) (fun hr => ?_) (fun pre x post h hr ih => ?_) (by simp [risingB])).trans (by simp)
  ·apply e_impl_increasing_L2
   simp [en_impl_increasing, hr]
  ·have hlt := mid_lt h
   simp only [List.length_cons] at hl
   apply e_impl_increasing_L2
   rw [if_pos (by simp; omega), wrap_id (by omega) (by omega)]
   obtain ⟨p, y, hp⟩ : ∃ p y, a :: pre = p ++ [y] := by rcases snoc_cases (a :: pre) with h | h <;> simp_all
   have hpl : p.length = pre.length := by have := congrArg List.length hp; simpa using this.symm
   have hL : a :: l = p ++ y :: (x :: post) := by rw [h, ← List.cons_append, hp]; simp
   have hL2 : a :: l = (p ++ [y]) ++ x :: post := by rw [hL]; simp
   rw [ixA_at sl_cI (i := (pre.length : Int) + 1 - 1) (n := p.length) (by omega) (mid_get hL), ixA_at sl_cI (n := (p ++ [y]).length) (by simp; omega) (mid_get hL2)]
   have e1 : a :: (pre ++ x :: post) = p ++ [y] ++ x :: post := by rw [← List.cons_append, hp]
   have e2 : a :: (pre ++ [x] ++ post) = p ++ [y] ++ x :: post := by rw [← List.cons_append, ← List.cons_append, hp]; simp
   have e3 : a :: (pre ++ [x]) = p ++ [y] ++ [x] := by rw [← List.cons_append, hp]
   have hr' : risingB (p ++ [y]) = true := hp ▸ hr
   rw [e2, e3] at ih
   simp only [e1]
   by_cases hxy : x ≤ y
   ·have hf : risingB (p ++ [y, x]) = false := by rw [risingB_snoc]; simp [show ¬ y < x by omega]
    have := risingB_pre (p ++ [y]) x post (by simpa using hf)
    rw [this]
    simp [hxy, en_impl_increasing]
   ·rw [if_neg (by simpa using hxy), wrap_id (by omega) (by omega)]
    refine ih ?_
    have := risingB_snoc x p y
    simp only [List.append_assoc, List.cons_append, List.nil_append] at this ⊢
    rw [this]
    simp [hr', show y < x by omega]
def edgeB (m : DMap) (e : Int) : Bool := inB 0 (3 * (m.Width * m.Height) - 1) e && decide (0 ≤ nextL m (e / 3) (e % 3))
def edgesL (m : DMap) (l : List Int) : Bool := l.all (edgeB m) && risingB l
def mapB (m : DMap) : Bool := inB 1 10 m.Width && inB 1 10 m.Height && decide ((m.Terrain.length : Int) = m.Width * m.Height) && m.Terrain.all (inB 0 5) && edgesL m m.Rivers && edgesL m m.Roads
structure MapN (m : DMap) : Prop where
 t : m.Terrain.length < 1000000000000
 r : m.Rivers.length < 1000000000000
 d : m.Roads.length < 1000000000000
structure MapS (m : DMap) : Prop where
 w0 : 0 < m.Width
 w1 : m.Width ≤ 1000
 h0 : 0 < m.Height
 h1 : m.Height ≤ 1000
theorem MapS.b {m : DMap} (h : MapS m) : MapB m := ⟨h.w0, by have := h.w1; omega, by have := h.h0; omega, by have := h.h1; omega⟩
theorem MapS.area {m : DMap} (h : MapS m) : 0 < m.Width * m.Height ∧ m.Width * m.Height ≤ 1000000 := by
 have h0 := h.w0; have h1 := h.w1; have h2 := h.h0; have h3 := h.h1
 have a := Int.mul_pos h0 h2
 have b : m.Width * m.Height ≤ 1000 * m.Height := Int.mul_le_mul_of_nonneg_right h1 (by omega)
 omega
theorem tdiv3 {e : Int} (h : 0 ≤ e) : Int.tdiv e 3 = e / 3 := Int.tdiv_eq_ediv_of_nonneg h
theorem tmod3 {e : Int} (h : 0 ≤ e) : Int.tmod e 3 = e % 3 := Int.tmod_eq_emod_of_nonneg h
theorem c_impl_isEdge (m : DMap) (e : Int) (hm : MapS m) : A_impl_isEdge m e = some (en_impl_isEdge (edgeB m e)) := by
 apply e_impl_isEdge
 have ha := hm.area
 have hw := hm.w0; have hw1 := hm.w1
 have hr : 3 * m.Width * m.Height = 3 * (m.Width * m.Height) := Int.mul_assoc ..
 rw [wrap_id (n := 3 * m.Width) (by omega) (by omega), hr, wrap_id (n := 3 * (m.Width * m.Height)) (by omega) (by omega), wrap_id (by omega) (by omega), kk_impl_inRange]
 unfold edgeB
 cases hb : inB 0 (3 * (m.Width * m.Height) - 1) e with
 | false => simp [en_impl_isEdge]
 | true =>
  rw [inB_iff] at hb
  rw [if_pos rfl, tdiv3 hb.1, tmod3 hb.1, wrap_id (by omega) (by omega), cast_of inj_impl_nextTo (c_impl_nextTo _ _ _ hm.b (by unfold sm; omega) (by omega) (by omega))]
  simp [en_impl_isEdge]
theorem all_and {α : Type} (p q : α → Bool) (l : List α) : l.all (fun x => p x && q x) = (l.all p && l.all q) := by
 induction l with
 | nil => rfl
 | cons a l ih => simp only [List.all_cons, ih]; cases p a <;> cases q a <;> simp
theorem c_spec_mEdges (m : DMap) (l : List Int) (hm : MapS m) (hl : l.length < 1000000000000) : A_spec_mEdges m l = some (en_spec_mEdges (edgesL m l)) := by
 apply e_spec_mEdges
 have ha := hm.area
 refine (list_loop (fun i (_ : Unit) => L_spec_mEdges_L2 m l l l.length i) l (fun r _ => some (en_spec_mEdges (r.all (edgeB m) && (l.all (inB 0 (3 * (m.Width * m.Height) - 1)) && risingB l)))) (fun _ => ?_) (fun pre x post _ h ih => ?_) ()).trans ?_
 ·apply e_spec_mEdges_L2
  rw [if_neg (by simp), cast_of inj_spec_mSize (c_spec_mSize _), wrap_id (n := m.Width * m.Height) (by omega) (by omega), wrap_id (n := 3 * (m.Width * m.Height)) (by omega) (by omega), wrap_id (by omega) (by omega), cast_of inj_spec_l1Rising (c_spec_l1Rising _ _ _ hl)]
  simp [en_spec_mEdges]
 ·apply e_spec_mEdges_L2
  have hlt := mid_lt h
  rw [if_pos (by simpa using hlt), ixA_at sl_cI rfl (mid_get h), cast_of inj_spec_mSize (c_spec_mSize _), wrap_id (n := m.Width * m.Height) (by omega) (by omega), wrap_id (n := 3 * (m.Width * m.Height)) (by omega) (by omega), wrap_id (by omega) (by omega), kk_spec_l1In]
  have hx : edgeB m x = (inB 0 (3 * (m.Width * m.Height) - 1) x && decide (0 ≤ nextL m (x / 3) (x % 3))) := rfl
  rw [List.all_cons, hx]
  cases hb : inB 0 (3 * (m.Width * m.Height) - 1) x with
  | false => simp [en_spec_mEdges]
  | true =>
   rw [inB_iff] at hb
   rw [if_neg (by simp), tdiv3 hb.1, tmod3 hb.1, wrap_id (by omega) (by omega), cast_of inj_spec_mNext (c_spec_mNext _ _ _ hm.b (by unfold sm; omega) (by omega) (by omega))]
   by_cases hn : nextL m (x / 3) (x % 3) < 0
   ·simp [hn, en_spec_mEdges]
    intro hh; omega
   ·rw [if_neg (by simpa using hn), wrap_id (by omega) (by omega), ih ()]
    have : (0 ≤ nextL m (x / 3) (x % 3)) := by omega
    simp [this]
 ·have : l.all (edgeB m) = (l.all (inB 0 (3 * (m.Width * m.Height) - 1)) && l.all (fun e => decide (0 ≤ nextL m (e / 3) (e % 3)))) := all_and _ _ l
  unfold edgesL
  rw [this]
  cases l.all (inB 0 (3 * (m.Width * m.Height) - 1)) <;> simp
def findI {α : Type} (p : α → Bool) : List α → Int
 | [] => -1
 | x :: r => if p x then 0 else if findI p r < 0 then -1 else findI p r + 1
theorem findI_b {α : Type} (p : α → Bool) : ∀ l : List α, -1 ≤ findI p l ∧ findI p l < l.length
 | [] => by simp [findI]
 | x :: r => by
  have := findI_b p r
  unfold findI
  simp only [List.length_cons]
  split
  ·omega
  ·split <;> omega
theorem findI_any {α : Type} (p : α → Bool) : ∀ l : List α, decide (0 ≤ findI p l) = l.any p
 | [] => by simp [findI]
 | x :: r => by
  have := findI_any p r
  have hb := findI_b p r
  unfold findI
  rw [List.any_cons]
  cases hp : p x
  ·simp only [Bool.false_eq_true, if_false, Bool.false_or]
   rw [← this]
   split <;> simp <;> omega
  ·simp
theorem idx_loop {α γ : Type} (L : Int → Option γ) (l : List α) (p : α → Bool) (K : Int → Option γ) (nil : OLe (K (-1)) (L l.length))
  (step : ∀ (i : Nat) x, l[i]? = some x → (i : Int) < l.length → OLe (if p x then K i else L ((i : Int) + 1)) (L i)) : OLe (K (findI p l)) (L 0) := by
 have key : ∀ (post pre : List α), l = pre ++ post → OLe (if findI p post < 0 then K (-1) else K (pre.length + findI p post)) (L pre.length) := by
  intro post
  induction post with
  | nil => intro pre h; rw [List.append_nil] at h; subst h; simpa [findI] using nil
  | cons x post ih =>
   intro pre h r hr
   refine step _ x (mid_get h) (mid_lt h) r ?_
   have := @ih (pre ++ [x]) (by simpa using h)
   unfold findI at hr
   cases hp : p x with
   | true => simpa [hp] using hr
   | false =>
    rw [if_neg (by simp)]
    simp only [hp, Bool.false_eq_true, if_false] at hr
    simp only [List.length_append, List.length_cons, List.length_nil] at this
    refine this r ?_
    rw [← hr]
    by_cases hf : findI p post < 0
    ·simp [hf]
    ·simp only [if_neg hf]
     rw [if_neg (by omega)]
     congr 1
     omega
 intro r hr
 refine key l [] rfl r ?_
 rw [← hr]
 have := findI_b p l
 by_cases hf : findI p l < 0
 ·rw [if_pos hf]; congr 1; omega
 ·rw [if_neg hf]; congr 1; simp
theorem all_loop {α γ : Type} (L : Int → Option γ) (l : List α) (p : α → Bool) (A Z : Option γ) (nil : OLe A (L l.length))
  (step : ∀ (i : Nat) x, l[i]? = some x → (i : Int) < l.length → OLe (if p x then L ((i : Int) + 1) else Z) (L i)) : OLe (if l.all p then A else Z) (L 0) := by
 have key : ∀ (post pre : List α), l = pre ++ post → OLe (if post.all p then A else Z) (L pre.length) := by
  intro post
  induction post with
  | nil => intro pre h; rw [List.append_nil] at h; subst h; simpa using nil
  | cons x post ih =>
   intro pre h r hr
   refine step _ x (mid_get h) (mid_lt h) r ?_
   rw [List.all_cons] at hr
   cases hp : p x with
   | true =>
    have := @ih (pre ++ [x]) (by simpa using h)
    rw [if_pos rfl]
    simp only [List.length_append, List.length_cons, List.length_nil] at this
    refine this r ?_
    simpa [hp] using hr
   | false => simpa [hp] using hr
 exact key l [] rfl
theorem c_slices_Index_int (l : List Int) (v : Int) (hl : l.length < 1000000000000) : A_slices_Index_int l v = some (en_slices_Index_int (findI (fun x => v == x) l)) := by
 apply e_slices_Index_int
 refine idx_loop (fun i => L_slices_Index_int_L2 l v l.length i) l _ (fun i => some (en_slices_Index_int i)) ?_ (fun i x hx hi => ?_) _ rfl
 ·intro _ h; apply e_slices_Index_int_L2
  rw [← h]; simp [en_slices_Index_int]
 ·intro _ h; apply e_slices_Index_int_L2
  rw [if_pos (by simpa using hi), ixA_at sl_cI rfl hx, wrap_id (by omega) (by omega)]
  exact h
theorem c_slices_Contains_int (l : List Int) (v : Int) (hl : l.length < 1000000000000) : A_slices_Contains_int l v = some (en_slices_Contains_int (decide (v ∈ l))) := by
 apply e_slices_Contains_int
 rw [cast_of inj_slices_Index_int (c_slices_Index_int _ _ hl), findI_any]
 have : (l.any fun x => v == x) = decide (v ∈ l) := by
  rw [Bool.eq_iff_iff]; simp
 rw [this]
 rfl
theorem c_impl_goodTerrain_1 (c : Int) : A_impl_goodTerrain_1 c = some (en_impl_goodTerrain_1 (!inB 0 9 c)) := by
 apply e_impl_goodTerrain_1
 rw [kk_impl_inRange]
 rfl
theorem c_xf_impl_goodTerrain_1 (l : List Int) (hl : l.length < 1000000000000) : A_xf_impl_goodTerrain_1 l = some (en_xf_impl_goodTerrain_1 (findI (fun x => !inB 0 9 x) l)) := by
 apply e_xf_impl_goodTerrain_1
 refine idx_loop (fun i => L_xf_impl_goodTerrain_1_L2 l l.length i) l _ (fun i => some (en_xf_impl_goodTerrain_1 i)) ?_ (fun i x hx hi => ?_) _ rfl
 ·intro _ h; apply e_xf_impl_goodTerrain_1_L2
  rw [← h]; simp [en_xf_impl_goodTerrain_1]
 ·intro _ h; apply e_xf_impl_goodTerrain_1_L2
  rw [if_pos (by simpa using hi), ixA_at sl_cI rfl hx, cast_of inj_impl_goodTerrain_1 (c_impl_goodTerrain_1 _), wrap_id (by omega) (by omega)]
  exact h
theorem any_not {α : Type} (p : α → Bool) (l : List α) : l.any (fun x => !p x) = !l.all p := by
 induction l with
 | nil => rfl
 | cons a l ih => simp [ih]
theorem c_cf_impl_goodTerrain_1 (l : List Int) (hl : l.length < 1000000000000) : A_cf_impl_goodTerrain_1 l = some (en_cf_impl_goodTerrain_1 (!l.all (inB 0 9))) := by
 apply e_cf_impl_goodTerrain_1
 rw [cast_of inj_xf_impl_goodTerrain_1 (c_xf_impl_goodTerrain_1 _ hl), findI_any, any_not]
 rfl
def terrainIx (l : List DTerrain) (n : ByteArray) : Int := findI (fun t => t.Name.toList == n.toList) l
def kindIx (l : List DKind) (n : ByteArray) : Int := findI (fun t => t.Name.toList == n.toList) l
theorem c_impl_terrainIndex_1 (n : ByteArray) (t : DTerrain) : A_impl_terrainIndex_1 n t = some (en_impl_terrainIndex_1 (t.Name.toList == n.toList, n)) := by
 apply e_impl_terrainIndex_1
 rfl
theorem c_slices_IndexFunc_Terrain_of_impl_terrainIndex_1 (n : ByteArray) (l : List DTerrain) (hl : l.length < 1000000000000) : A_slices_IndexFunc_Terrain_of_impl_terrainIndex_1 n l = some (en_slices_IndexFunc_Terrain_of_impl_terrainIndex_1 (terrainIx l n, n)) := by
 apply e_slices_IndexFunc_Terrain_of_impl_terrainIndex_1
 refine idx_loop (fun i => L_slices_IndexFunc_Terrain_of_impl_terrainIndex_1_L2 n l l.length i) l (fun t => t.Name.toList == n.toList) (fun i => some (en_slices_IndexFunc_Terrain_of_impl_terrainIndex_1 (i, n))) ?_ (fun i x hx hi => ?_) _ rfl
 ·intro _ h; apply e_slices_IndexFunc_Terrain_of_impl_terrainIndex_1_L2
  rw [← h]; simp [en_slices_IndexFunc_Terrain_of_impl_terrainIndex_1]
 ·intro _ h; apply e_slices_IndexFunc_Terrain_of_impl_terrainIndex_1_L2
  rw [if_pos (by simpa using hi), ixA_at sl_cTerrain rfl hx, cast_of inj_impl_terrainIndex_1 (c_impl_terrainIndex_1 _ _), wrap_id (by omega) (by omega)]
  exact h
theorem c_impl_terrainIndex (l : List DTerrain) (n : ByteArray) (hl : l.length < 1000000000000) : A_impl_terrainIndex l n = some (en_impl_terrainIndex (terrainIx l n)) := by
 apply e_impl_terrainIndex
 rw [cast_of inj_slices_IndexFunc_Terrain_of_impl_terrainIndex_1 (c_slices_IndexFunc_Terrain_of_impl_terrainIndex_1 _ _ hl)]
 rfl
theorem c_spec_rTerrain (l : List DTerrain) (n : ByteArray) (hl : l.length < 1000000000000) : A_spec_rTerrain l n = some (en_spec_rTerrain (terrainIx l n)) := by
 apply e_spec_rTerrain
 refine idx_loop (fun i => L_spec_rTerrain_L2 n l l.length i) l (fun t => t.Name.toList == n.toList) (fun i => some (en_spec_rTerrain i)) ?_ (fun i x hx hi => ?_) _ rfl
 ·intro _ h; apply e_spec_rTerrain_L2
  rw [← h]; simp [en_spec_rTerrain]
 ·intro _ h; apply e_spec_rTerrain_L2
  rw [if_pos (by simpa using hi), ixA_at sl_cTerrain rfl hx, wrap_id (by omega) (by omega)]
  exact h
theorem c_impl_kindIndex_1 (n : ByteArray) (t : DKind) : A_impl_kindIndex_1 n t = some (en_impl_kindIndex_1 (t.Name.toList == n.toList, n)) := by
 apply e_impl_kindIndex_1
 rfl
theorem c_slices_IndexFunc_Kind_of_impl_kindIndex_1 (n : ByteArray) (l : List DKind) (hl : l.length < 1000000000000) : A_slices_IndexFunc_Kind_of_impl_kindIndex_1 n l = some (en_slices_IndexFunc_Kind_of_impl_kindIndex_1 (kindIx l n, n)) := by
 apply e_slices_IndexFunc_Kind_of_impl_kindIndex_1
 refine idx_loop (fun i => L_slices_IndexFunc_Kind_of_impl_kindIndex_1_L2 n l l.length i) l (fun t => t.Name.toList == n.toList) (fun i => some (en_slices_IndexFunc_Kind_of_impl_kindIndex_1 (i, n))) ?_ (fun i x hx hi => ?_) _ rfl
 ·intro _ h; apply e_slices_IndexFunc_Kind_of_impl_kindIndex_1_L2
  rw [← h]; simp [en_slices_IndexFunc_Kind_of_impl_kindIndex_1]
 ·intro _ h; apply e_slices_IndexFunc_Kind_of_impl_kindIndex_1_L2
  rw [if_pos (by simpa using hi), ixA_at sl_cKind rfl hx, cast_of inj_impl_kindIndex_1 (c_impl_kindIndex_1 _ _), wrap_id (by omega) (by omega)]
  exact h
theorem c_impl_kindIndex (l : List DKind) (n : ByteArray) (hl : l.length < 1000000000000) : A_impl_kindIndex l n = some (en_impl_kindIndex (kindIx l n)) := by
 apply e_impl_kindIndex
 rw [cast_of inj_slices_IndexFunc_Kind_of_impl_kindIndex_1 (c_slices_IndexFunc_Kind_of_impl_kindIndex_1 _ _ hl)]
 rfl
theorem c_spec_rKind (l : List DKind) (n : ByteArray) (hl : l.length < 1000000000000) : A_spec_rKind l n = some (en_spec_rKind (kindIx l n)) := by
 apply e_spec_rKind
 refine idx_loop (fun i => L_spec_rKind_L2 n l l.length i) l (fun t => t.Name.toList == n.toList) (fun i => some (en_spec_rKind i)) ?_ (fun i x hx hi => ?_) _ rfl
 ·intro _ h; apply e_spec_rKind_L2
  rw [← h]; simp [en_spec_rKind]
 ·intro _ h; apply e_spec_rKind_L2
  rw [if_pos (by simpa using hi), ixA_at sl_cKind rfl hx, wrap_id (by omega) (by omega)]
  exact h
def terrainB (k : Int) (t : DTerrain) : Bool := nameB t.Name && ((t.Cost.length : Int) == k && (inB (-3) 3 t.Shift && (inB 0 3 t.Height && t.Cost.all (inB 0 9))))
def kindB (k : DKind) : Bool := nameB k.Name && (inB 1 9 k.Strength && (inB 0 9 k.Moves && (inB 1 4 k.Steps && inB 0 4 k.View)))
theorem c_impl_goodTerrain (t : DTerrain) (k : Int) (hs : t.Name.size < 1000000000000) (hl : t.Cost.length < 1000000000000) : A_impl_goodTerrain t k = some (en_impl_goodTerrain (terrainB k t)) := by
 apply e_impl_goodTerrain
 unfold terrainB
 simp only [kk_impl_inRange, cast_of inj_impl_isName (c_impl_isName _ hs), cast_of inj_cf_impl_goodTerrain_1 (c_cf_impl_goodTerrain_1 _ hl)]
 cases nameB t.Name <;> cases h1 : (t.Cost.length : Int) == k <;> cases inB (-3) 3 t.Shift <;> cases inB 0 3 t.Height <;> simp_all [en_impl_goodTerrain, bne]
theorem c_impl_goodKind (k : DKind) (hs : k.Name.size < 1000000000000) : A_impl_goodKind k = some (en_impl_goodKind (kindB k)) := by
 apply e_impl_goodKind
 unfold kindB
 simp only [kk_impl_inRange, cast_of inj_impl_isName (c_impl_isName _ hs)]
 cases nameB k.Name <;> cases inB 1 9 k.Strength <;> cases inB 0 9 k.Moves <;> cases inB 1 4 k.Steps <;> simp [en_impl_goodKind]
def alli {α : Type} (p : Nat → α → Bool) : Nat → List α → Bool
 | _, [] => true
 | n, x :: r => p n x && alli p (n + 1) r
theorem alli_loop {α γ : Type} (L : Int → Option γ) (l : List α) (p : Nat → α → Bool) (A Z : Option γ) (nil : OLe A (L l.length))
  (step : ∀ (i : Nat) x, l[i]? = some x → (i : Int) < l.length → OLe (if p i x then L ((i : Int) + 1) else Z) (L i)) : OLe (if alli p 0 l then A else Z) (L 0) := by
 have key : ∀ (post pre : List α), l = pre ++ post → OLe (if alli p pre.length post then A else Z) (L pre.length) := by
  intro post
  induction post with
  | nil => intro pre h; rw [List.append_nil] at h; subst h; simpa [alli] using nil
  | cons x post ih =>
   intro pre h r hr
   refine step _ x (mid_get h) (mid_lt h) r ?_
   unfold alli at hr
   cases hp : p pre.length x with
   | true =>
    have := @ih (pre ++ [x]) (by simpa using h)
    rw [if_pos rfl]
    simp only [List.length_append, List.length_cons, List.length_nil] at this
    refine this r ?_
    simpa [hp] using hr
   | false => simpa [hp] using hr
 exact key l [] rfl
structure RulesN (r : DRules) : Prop where
 t : r.Terrains.length < 1000000000000
 k : r.Kinds.length < 1000000000000
 tn : ∀ t ∈ r.Terrains, t.Name.size < 1000000000000 ∧ t.Cost.length < 1000000000000
 kn : ∀ k ∈ r.Kinds, k.Name.size < 1000000000000
def restB (r : DRules) : Bool := inB 1 4 r.Stack && (inB 0 9 r.River && (inB 1 9 r.Road && (inB 0 20 r.Supply && inB 1 30 r.Turns)))
def rulesB (r : DRules) : Bool := inB 1 6 r.Terrains.length && (inB 1 4 r.Kinds.length && (alli (fun i t => terrainB r.Kinds.length t && terrainIx r.Terrains t.Name == i) 0 r.Terrains && (alli (fun i k => kindB k && kindIx r.Kinds k.Name == i) 0 r.Kinds && restB r)))
theorem mem_of_get {α : Type} {l : List α} {i : Nat} {x : α} (h : l[i]? = some x) : x ∈ l := List.mem_of_getElem? h
theorem l_impl_IsRules_L10 (r : DRules) (hr : RulesN r) : OLe (if alli (fun i k => kindB k && kindIx r.Kinds k.Name == i) 0 r.Kinds then some (en_impl_IsRules (restB r)) else some (en_impl_IsRules false)) (L_impl_IsRules_L10 r r.Kinds r.Kinds.length 0) := by
 have hk := hr.k
 refine alli_loop (fun i => L_impl_IsRules_L10 r r.Kinds r.Kinds.length i) r.Kinds _ _ _ ?_ (fun i x hx hi => ?_)
 ·intro _ h; apply e_impl_IsRules_L10
  rw [if_neg (by simp), ← h]
  simp only [kk_impl_inRange]
  unfold restB
  cases inB 1 4 r.Stack <;> cases inB 0 9 r.River <;> cases inB 1 9 r.Road <;> cases inB 0 20 r.Supply <;> simp [en_impl_IsRules]
 ·intro _ h; apply e_impl_IsRules_L10
  rw [if_pos (by simpa using hi), ixA_at sl_cKind rfl hx, cast_of inj_impl_goodKind (c_impl_goodKind _ (hr.kn x (mem_of_get hx))), cast_of inj_impl_kindIndex (c_impl_kindIndex _ _ hk), wrap_id (by omega) (by omega), ← h]
  cases kindB x <;> cases h1 : kindIx r.Kinds x.Name == (i : Int) <;> simp_all [en_impl_IsRules, bne]
theorem l_impl_IsRules_L4 (r : DRules) (hr : RulesN r) : OLe (if alli (fun i t => terrainB r.Kinds.length t && terrainIx r.Terrains t.Name == i) 0 r.Terrains then (if alli (fun i k => kindB k && kindIx r.Kinds k.Name == i) 0 r.Kinds then some (en_impl_IsRules (restB r)) else some (en_impl_IsRules false)) else some (en_impl_IsRules false)) (L_impl_IsRules_L4 r r.Terrains r.Terrains.length 0) := by
 have hk := hr.t
 refine alli_loop (fun i => L_impl_IsRules_L4 r r.Terrains r.Terrains.length i) r.Terrains _ _ _ ?_ (fun i x hx hi => ?_)
 ·intro _ h; apply e_impl_IsRules_L4
  rw [if_neg (by simp)]
  exact l_impl_IsRules_L10 r hr _ h
 ·intro _ h; apply e_impl_IsRules_L4
  have hn := hr.tn x (mem_of_get hx)
  rw [if_pos (by simpa using hi), ixA_at sl_cTerrain rfl hx, cast_of inj_impl_goodTerrain (c_impl_goodTerrain _ _ hn.1 hn.2), cast_of inj_impl_terrainIndex (c_impl_terrainIndex _ _ hk), wrap_id (by omega) (by omega), ← h]
  cases terrainB r.Kinds.length x <;> cases h1 : terrainIx r.Terrains x.Name == (i : Int) <;> simp_all [en_impl_IsRules, bne]
theorem c_impl_IsRules (r : DRules) (hr : RulesN r) : A_impl_IsRules r = some (en_impl_IsRules (rulesB r)) := by
 apply e_impl_IsRules
 unfold rulesB
 simp only [kk_impl_inRange]
 cases inB 1 6 (r.Terrains.length : Int) with
 | false => simp [en_impl_IsRules]
 | true =>
  cases inB 1 4 (r.Kinds.length : Int) with
  | false => simp [en_impl_IsRules]
  | true =>
   refine l_impl_IsRules_L4 r hr _ ?_
   cases alli (fun i t => terrainB r.Kinds.length t && terrainIx r.Terrains t.Name == i) 0 r.Terrains <;> cases alli (fun i k => kindB k && kindIx r.Kinds k.Name == i) 0 r.Kinds <;> simp
theorem l_spec_rGood_L10 (r : DRules) (hr : RulesN r) : OLe (if alli (fun i k => kindB k && kindIx r.Kinds k.Name == i) 0 r.Kinds then some (en_spec_rGood (restB r)) else some (en_spec_rGood false)) (L_spec_rGood_L10 r r.Kinds r.Kinds.length 0) := by
 have hk := hr.k
 refine alli_loop (fun i => L_spec_rGood_L10 r r.Kinds r.Kinds.length i) r.Kinds _ _ _ ?_ (fun i x hx hi => ?_)
 ·intro _ h; apply e_spec_rGood_L10
  rw [if_neg (by simp), ← h]
  simp only [kk_spec_l1In]
  unfold restB
  cases inB 1 4 r.Stack <;> cases inB 0 9 r.River <;> cases inB 1 9 r.Road <;> cases inB 0 20 r.Supply <;> simp [en_spec_rGood]
 ·intro _ h; apply e_spec_rGood_L10
  rw [if_pos (by simpa using hi), ixA_at sl_cKind rfl hx]
  simp only [cast_of inj_spec_rName (c_spec_rName _ (hr.kn x (mem_of_get hx))), cast_of inj_spec_rKind (c_spec_rKind _ _ hk), kk_spec_l1In]
  rw [wrap_id (by omega) (by omega), ← h]
  unfold kindB
  cases h1 : kindIx r.Kinds x.Name == (i : Int) <;> cases nameB x.Name <;> cases inB 1 9 x.Strength <;> cases inB 0 9 x.Moves <;> cases inB 1 4 x.Steps <;> cases inB 0 4 x.View <;> simp_all [en_spec_rGood, bne]
theorem l_spec_rGood_L4 (r : DRules) (hr : RulesN r) : OLe (if alli (fun i t => terrainB r.Kinds.length t && terrainIx r.Terrains t.Name == i) 0 r.Terrains then (if alli (fun i k => kindB k && kindIx r.Kinds k.Name == i) 0 r.Kinds then some (en_spec_rGood (restB r)) else some (en_spec_rGood false)) else some (en_spec_rGood false)) (L_spec_rGood_L4 r r.Terrains r.Terrains.length 0) := by
 have hk := hr.t
 refine alli_loop (fun i => L_spec_rGood_L4 r r.Terrains r.Terrains.length i) r.Terrains _ _ _ ?_ (fun i x hx hi => ?_)
 ·intro _ h; apply e_spec_rGood_L4
  rw [if_neg (by simp)]
  exact l_spec_rGood_L10 r hr _ h
 ·intro _ h; apply e_spec_rGood_L4
  have hn := hr.tn x (mem_of_get hx)
  rw [if_pos (by simpa using hi), ixA_at sl_cTerrain rfl hx]
  simp only [cast_of inj_spec_rName (c_spec_rName _ hn.1), cast_of inj_spec_rTerrain (c_spec_rTerrain _ _ hk), kk_spec_l1In, cast_of inj_spec_l1All (c_spec_l1All _ _ _ hn.2)]
  rw [wrap_id (by omega) (by omega), ← h]
  unfold terrainB
  cases h1 : terrainIx r.Terrains x.Name == (i : Int) <;> cases nameB x.Name <;> cases h2 : (x.Cost.length : Int) == r.Kinds.length <;> cases inB (-3) 3 x.Shift <;> cases inB 0 3 x.Height <;> cases x.Cost.all (inB 0 9) <;> simp_all [en_spec_rGood, bne]
theorem c_spec_rGood (r : DRules) (hr : RulesN r) : A_spec_rGood r = some (en_spec_rGood (rulesB r)) := by
 apply e_spec_rGood
 unfold rulesB
 simp only [kk_spec_l1In]
 cases inB 1 6 (r.Terrains.length : Int) with
 | false => simp [en_spec_rGood]
 | true =>
  cases inB 1 4 (r.Kinds.length : Int) with
  | false => simp [en_spec_rGood]
  | true =>
   refine l_spec_rGood_L4 r hr _ ?_
   cases alli (fun i t => terrainB r.Kinds.length t && terrainIx r.Terrains t.Name == i) 0 r.Terrains <;> cases alli (fun i k => kindB k && kindIx r.Kinds k.Name == i) 0 r.Kinds <;> simp
theorem MapS.of {m : DMap} (h0 : inB 1 10 m.Width = true) (h1 : inB 1 10 m.Height = true) : MapS m := by
 rw [inB_iff] at h0 h1
 exact ⟨by omega, by omega, by omega, by omega⟩
theorem l_impl_IsMap_L15 (m : DMap) (hm : MapS m) (ls : List (List Int)) (n j : Int) (l : List Int) (hl : l.length < 1000000000000) : OLe (if l.all (edgeB m) then L_impl_IsMap_L10 ls m n (IntKind.wrap .i64 (j + 1)) else some (en_impl_IsMap false)) (L_impl_IsMap_L15 ls m n j l l.length 0) := by
 refine all_loop (fun i => L_impl_IsMap_L15 ls m n j l l.length i) l _ _ _ ?_ (fun i x hx hi => ?_)
 ·intro _ h; apply e_impl_IsMap_L15
  rw [if_neg (by simp), ← h]
 ·intro _ h; apply e_impl_IsMap_L15
  rw [if_pos (by simpa using hi), ixA_at sl_cI rfl hx, cast_of inj_impl_isEdge (c_impl_isEdge _ _ hm), wrap_id (by omega) (by omega), ← h]
  cases edgeB m x <;> simp [en_impl_IsMap]
theorem l_impl_IsMap_L10 (m : DMap) (hm : MapS m) (hn : MapN m) : OLe (some (en_impl_IsMap (edgesL m m.Rivers && edgesL m m.Roads))) (L_impl_IsMap_L10 [m.Rivers, m.Roads] m 2 0) := by
 have key := all_loop (fun i => L_impl_IsMap_L10 [m.Rivers, m.Roads] m 2 i) [m.Rivers, m.Roads] (edgesL m) (some (en_impl_IsMap true)) (some (en_impl_IsMap false)) ?_ (fun i x hx hi => ?_)
 ·intro r h
  refine key r ?_
  rw [← h]
  cases h1 : edgesL m m.Rivers <;> cases h2 : edgesL m m.Roads <;> simp [h1, h2]
 ·intro _ h; apply e_impl_IsMap_L10
  rw [if_neg (by simp), ← h]
  rfl
 ·intro r h; apply e_impl_IsMap_L10
  have hi2 : (i : Int) < 2 := by simpa using hi
  have hx2 : x = m.Rivers ∨ x = m.Roads := by simpa using mem_of_get hx
  have hl : x.length < 1000000000000 := by rcases hx2 with e | e <;> rw [e] <;> first | exact hn.r | exact hn.d
  rw [if_pos (by simpa using hi2), oxA_at rt_cLI rfl (by simp; omega)]
  refine (ld_at (E := tLI) rfl rfl ok_cLI (fun _ => rfl) rfl rfl hx _).trans ?_
  rw [cast_of inj_impl_increasing (c_impl_increasing _ hl)]
  unfold edgesL at h
  cases hb : risingB x with
  | false => rw [← h]; simp [hb, en_impl_IsMap]
  | true =>
   rw [if_neg (by simp)]
   refine l_impl_IsMap_L15 m hm _ _ _ x hl _ ?_
   rw [wrap_id (by omega) (by omega), ← h]
   simp [hb]
theorem c_impl_IsMap (m : DMap) (hn : MapN m) : A_impl_IsMap m = some (en_impl_IsMap (mapB m)) := by
 apply e_impl_IsMap
 unfold mapB
 simp only [kk_impl_inRange]
 cases h0 : inB 1 10 m.Width with
 | false => simp [en_impl_IsMap]
 | true =>
  cases h1 : inB 1 10 m.Height with
  | false => simp [en_impl_IsMap]
  | true =>
   have hs := MapS.of h0 h1
   have ha := hs.area
   have ht := hn.t
   rw [if_neg (by simp), if_neg (by simp), wrap_id (by omega) (by omega)]
   by_cases hc : (m.Terrain.length : Int) = m.Width * m.Height
   ·rw [if_neg (by simpa using hc)]
    have key := all_loop (fun i => L_impl_IsMap_L4 m m.Terrain m.Terrain.length i) m.Terrain (inB 0 5) (some (en_impl_IsMap (edgesL m m.Rivers && edgesL m m.Roads))) (some (en_impl_IsMap false)) ?_ (fun i x hx hi => ?_)
    ·refine key _ ?_
     cases m.Terrain.all (inB 0 5) <;> simp [hc]
    ·intro _ h; apply e_impl_IsMap_L4
     rw [if_neg (by simp)]
     exact l_impl_IsMap_L10 m hs hn _ h
    ·intro _ h; apply e_impl_IsMap_L4
     rw [if_pos (by simpa using hi), ixA_at sl_cI rfl hx, cast_of inj_impl_isIndex (c_impl_isIndex _ _ (by omega) (by omega)), wrap_id (by omega) (by omega), ← h]
     cases hb : inB 0 5 x <;> simp [en_impl_IsMap, hb]
   ·rw [if_pos (by simpa using hc)]
    simp [hc, en_impl_IsMap]
theorem c_spec_mGood (m : DMap) (hn : MapN m) : A_spec_mGood m = some (en_spec_mGood (mapB m)) := by
 apply e_spec_mGood
 unfold mapB
 have ht := hn.t
 simp only [kk_spec_l1In, cast_of inj_spec_mSize (c_spec_mSize _), cast_of inj_spec_l1All (c_spec_l1All _ _ _ hn.t)]
 cases h0 : inB 1 10 m.Width with
 | false => simp [en_spec_mGood]
 | true =>
  cases h1 : inB 1 10 m.Height with
  | false => simp [en_spec_mGood]
  | true =>
   have hs := MapS.of h0 h1
   have ha := hs.area
   rw [if_pos rfl, if_pos rfl, wrap_id (by omega) (by omega), cast_of inj_spec_mEdges (c_spec_mEdges _ _ hs hn.r), cast_of inj_spec_mEdges (c_spec_mEdges _ _ hs hn.d)]
   by_cases hc : (m.Terrain.length : Int) = m.Width * m.Height
   ·cases m.Terrain.all (inB 0 5) <;> cases edgesL m m.Rivers <;> simp [hc, en_spec_mGood]
   ·simp [hc, en_spec_mGood]
structure BoardN (b : DBoard) : Prop where
 r : RulesN b.Rules
 m : MapN b.Map
def boardB (b : DBoard) : Bool := rulesB b.Rules && (mapB b.Map && b.Map.Terrain.all (inB 0 ((b.Rules.Terrains.length : Int) - 1)))
theorem c_spec_bGood (b : DBoard) (hn : BoardN b) : A_spec_bGood b = some (en_spec_bGood (boardB b)) := by
 apply e_spec_bGood
 unfold boardB
 have := hn.r.t
 rw [cast_of inj_spec_rGood (c_spec_rGood _ hn.r), cast_of inj_spec_mGood (c_spec_mGood _ hn.m), wrap_id (by omega) (by omega), cast_of inj_spec_l1All (c_spec_l1All _ _ _ hn.m.t)]
 cases rulesB b.Rules <;> cases mapB b.Map <;> simp [en_spec_bGood]
theorem c_impl_IsBoard_1 (b : DBoard) (t : Int) : A_impl_IsBoard_1 b t = some (en_impl_IsBoard_1 (decide ((b.Rules.Terrains.length : Int) ≤ t), b)) := by
 apply e_impl_IsBoard_1
 rfl
theorem c_xf_impl_IsBoard_1 (b : DBoard) (l : List Int) (hl : l.length < 1000000000000) : A_xf_impl_IsBoard_1 b l = some (en_xf_impl_IsBoard_1 (findI (fun t => decide ((b.Rules.Terrains.length : Int) ≤ t)) l, b)) := by
 apply e_xf_impl_IsBoard_1
 refine idx_loop (fun i => L_xf_impl_IsBoard_1_L2 b l l.length i) l (fun t => decide ((b.Rules.Terrains.length : Int) ≤ t)) (fun i => some (en_xf_impl_IsBoard_1 (i, b))) ?_ (fun i x hx hi => ?_) _ rfl
 ·intro _ h; apply e_xf_impl_IsBoard_1_L2
  rw [← h]; simp [en_xf_impl_IsBoard_1]
 ·intro _ h; apply e_xf_impl_IsBoard_1_L2
  rw [if_pos (by simpa using hi), ixA_at sl_cI rfl hx, cast_of inj_impl_IsBoard_1 (c_impl_IsBoard_1 _ _), wrap_id (by omega) (by omega)]
  exact h
theorem c_impl_IsBoard (b : DBoard) (hn : BoardN b) : A_impl_IsBoard b = some (en_impl_IsBoard (boardB b)) := by
 apply e_impl_IsBoard
 unfold boardB
 rw [cast_of inj_impl_IsRules (c_impl_IsRules _ hn.r), cast_of inj_impl_IsMap (c_impl_IsMap _ hn.m)]
 have hc : A_cf_impl_IsBoard_1 b b.Map.Terrain = some (en_cf_impl_IsBoard_1 (b.Map.Terrain.any (fun t => decide ((b.Rules.Terrains.length : Int) ≤ t)), b)) := by
  apply e_cf_impl_IsBoard_1
  rw [cast_of inj_xf_impl_IsBoard_1 (c_xf_impl_IsBoard_1 _ _ hn.m.t), findI_any]
  rfl
 rw [cast_of inj_cf_impl_IsBoard_1 hc]
 cases hr : rulesB b.Rules with
 | false => simp [en_impl_IsBoard]
 | true =>
  cases hm : mapB b.Map with
  | false => simp [en_impl_IsBoard]
  | true =>
   have : (b.Map.Terrain.any (fun t => decide ((b.Rules.Terrains.length : Int) ≤ t))) = !b.Map.Terrain.all (inB 0 ((b.Rules.Terrains.length : Int) - 1)) := by
    unfold mapB at hm
    simp only [Bool.and_eq_true, List.all_eq_true, inB_iff] at hm
    rw [Bool.eq_iff_iff]
    simp only [List.any_eq_true, decide_eq_true_eq, Bool.not_eq_true', List.all_eq_false, inB_iff]
    constructor
    ·rintro ⟨x, hx, h⟩
     exact ⟨x, hx, by omega⟩
    ·rintro ⟨x, hx, h⟩
     have := hm.1.1.2 x hx
     exact ⟨x, hx, by omega⟩
   simp [this, en_impl_IsBoard]
theorem c_impl_isSide (n : Int) : A_impl_isSide n = some (en_impl_isSide (inB 0 1 n)) := by
 apply e_impl_isSide
 rw [kk_impl_inRange]
 rfl
theorem c_spec_bTerrain (b : DBoard) (i : Int) {t : Int} {x : DTerrain} (h : getI b.Map.Terrain i = some t) (hx : getI b.Rules.Terrains t = some x) : A_spec_bTerrain b i = some (en_spec_bTerrain x) := by
 apply e_spec_bTerrain
 rw [ixA_get sl_cI _ _ h, ixA_get sl_cTerrain _ _ hx]
 rfl
theorem c_impl_terrainAt (b : DBoard) (i : Int) {t : Int} {x : DTerrain} (h : getI b.Map.Terrain i = some t) (hx : getI b.Rules.Terrains t = some x) : A_impl_terrainAt b i = some (en_impl_terrainAt x) := by
 apply e_impl_terrainAt
 rw [ixA_get sl_cI _ _ h, ixA_get sl_cTerrain _ _ hx]
 rfl
def costO (b : DBoard) (k i : Int) : Option Int := (getI b.Map.Terrain i).bind fun t => (getI b.Rules.Terrains t).bind fun x => getI x.Cost k
def costL (b : DBoard) (k i : Int) : Int := (costO b k i).getD 0
def kindO (b : DBoard) (k : Int) : DKind := (getI b.Rules.Kinds k).getD ⟨.empty, 0, 0, 0, false, 0⟩
theorem c_spec_bCost (b : DBoard) (k i : Int) {v : Int} (h : costO b k i = some v) : A_spec_bCost b k i = some (en_spec_bCost v) := by
 unfold costO at h
 rw [Option.bind_eq_some_iff] at h
 obtain ⟨t, h1, h⟩ := h
 rw [Option.bind_eq_some_iff] at h
 obtain ⟨x, h2, h⟩ := h
 apply e_spec_bCost
 rw [cast_of inj_spec_bTerrain (c_spec_bTerrain _ _ h1 h2), ixA_get sl_cI _ _ h]
 rfl
theorem c_impl_enterCost (b : DBoard) (k i : Int) {v : Int} (h : costO b k i = some v) : A_impl_enterCost b k i = some (en_impl_enterCost v) := by
 unfold costO at h
 rw [Option.bind_eq_some_iff] at h
 obtain ⟨t, h1, h⟩ := h
 rw [Option.bind_eq_some_iff] at h
 obtain ⟨x, h2, h⟩ := h
 apply e_impl_enterCost
 rw [cast_of inj_impl_terrainAt (c_impl_terrainAt _ _ h1 h2), ixA_get sl_cI _ _ h]
 rfl
theorem alli_get {α : Type} {p : Nat → α → Bool} : ∀ {l : List α} {n : Nat}, alli p n l = true → ∀ i x, l[i]? = some x → p (n + i) x = true
 | [], _, _, i, x, h => by simp at h
 | a :: l, n, hl, i, x, h => by
  unfold alli at hl
  rw [Bool.and_eq_true] at hl
  match i with
  | 0 => simp at h; subst h; exact hl.1
  | i + 1 =>
   have := alli_get hl.2 i x (by simpa using h)
   rwa [show n + (i + 1) = n + 1 + i by omega]
theorem getI_some {α : Type} {l : List α} {i : Int} {x : α} (h : getI l i = some x) : ∃ n : Nat, i = n ∧ l[n]? = some x ∧ n < l.length := by
 unfold getI at h
 split at h
 ·exact ⟨i.toNat, by omega, h, (List.getElem?_eq_some_iff.1 h).1⟩
 ·cases h
theorem getI_ex {α : Type} {l : List α} {i : Int} (h0 : 0 ≤ i) (h1 : i < l.length) : ∃ x, getI l i = some x := ⟨_, getI_of h0 h1⟩
structure BoardG (b : DBoard) : Prop where
 ok : boardB b = true
 t0 : 0 < b.Rules.Terrains.length
 t1 : b.Rules.Terrains.length ≤ 6
 k0 : 0 < b.Rules.Kinds.length
 k1 : b.Rules.Kinds.length ≤ 4
 cost : ∀ t ∈ b.Rules.Terrains, t.Cost.length = b.Rules.Kinds.length ∧ ∀ c ∈ t.Cost, 0 ≤ c ∧ c ≤ 9
 kind : ∀ k ∈ b.Rules.Kinds, kindB k = true
 w0 : 0 < b.Map.Width
 w1 : b.Map.Width ≤ 10
 h0 : 0 < b.Map.Height
 h1 : b.Map.Height ≤ 10
 area : (b.Map.Terrain.length : Int) = b.Map.Width * b.Map.Height
 ter : ∀ t ∈ b.Map.Terrain, 0 ≤ t ∧ t < b.Rules.Terrains.length
 rest : restB b.Rules = true
 riv : edgesL b.Map b.Map.Rivers = true
 roa : edgesL b.Map b.Map.Roads = true
theorem BoardG.of {b : DBoard} (h : boardB b = true) : BoardG b := by
 have h' := h
 unfold boardB rulesB mapB at h'
 simp only [Bool.and_eq_true, inB_iff, decide_eq_true_eq, List.all_eq_true] at h'
 obtain ⟨⟨ht, hk, hte, hki, hre⟩, ⟨⟨⟨⟨⟨hw, hh⟩, ha⟩, h6⟩, hri⟩, hro⟩, hb⟩ := h'
 refine ⟨h, by omega, by omega, by omega, by omega, fun t htm => ?_, fun k hkm => ?_, by omega, by omega, by omega, by omega, ha, fun t htm => ?_, hre, hri, hro⟩
 ·obtain ⟨i, hi⟩ := List.getElem?_of_mem htm
  have := alli_get hte i t hi
  unfold terrainB at this
  simp only [Bool.and_eq_true, List.all_eq_true, inB_iff, beq_iff_eq] at this
  exact ⟨by have := this.1.2.1; omega, this.1.2.2.2.2⟩
 ·obtain ⟨i, hi⟩ := List.getElem?_of_mem hkm
  have := alli_get hki i k hi
  simp only [Bool.and_eq_true] at this
  exact this.1
 ·have := hb t htm
  omega
theorem BoardG.s {b : DBoard} (h : BoardG b) : MapS b.Map := ⟨h.w0, by have := h.w1; omega, h.h0, by have := h.h1; omega⟩
theorem BoardG.cost_ex {b : DBoard} (g : BoardG b) {k i : Int} (hk : 0 ≤ k) (hk1 : k < b.Rules.Kinds.length) (hi : 0 ≤ i) (hi1 : i < b.Map.Width * b.Map.Height) : costO b k i = some (costL b k i) ∧ 0 ≤ costL b k i ∧ costL b k i ≤ 9 := by
 have ha := g.area
 obtain ⟨t, ht⟩ := getI_ex hi (l := b.Map.Terrain) (by omega)
 obtain ⟨n, rfl, hn, hnl⟩ := getI_some ht
 have htb := g.ter t (mem_of_get hn)
 obtain ⟨x, hx⟩ := getI_ex htb.1 htb.2
 obtain ⟨m, hm0, hm, hml⟩ := getI_some hx
 have hc := g.cost x (mem_of_get hm)
 obtain ⟨c, hcx⟩ := getI_ex hk (l := x.Cost) (by omega)
 obtain ⟨q, hq0, hq, hql⟩ := getI_some hcx
 have hcc := hc.2 c (mem_of_get hq)
 have e : costO b k (n : Int) = some c := by
  unfold costO
  rw [ht, Option.bind_some, hx, Option.bind_some, hcx]
 unfold costL
 rw [e]
 exact ⟨rfl, hcc⟩
def unitB (b : DBoard) (u : DUnit) : Bool := inB 0 1 u.Side && (inB 0 ((b.Rules.Kinds.length : Int) - 1) u.Kind && (inB 0 (kindO b u.Kind).Steps u.Steps && (u.At == -1 || (decide (0 < u.Steps) && (inB 0 (b.Map.Width * b.Map.Height - 1) u.At && decide (0 < costL b u.Kind u.At))))))
theorem c_spec_sUnit (b : DBoard) (u : DUnit) (g : BoardG b) : A_spec_sUnit b u = some (en_spec_sUnit (unitB b u)) := by
 apply e_spec_sUnit
 unfold unitB
 have hk1 := g.k1
 have ha := g.s.area
 simp only [kk_spec_l1In, cast_of inj_spec_mSize (c_spec_mSize _)]
 rw [wrap_id (n := (b.Rules.Kinds.length : Int) - 1) (by omega) (by omega), wrap_id (n := b.Map.Width * b.Map.Height) (by omega) (by omega), wrap_id (n := b.Map.Width * b.Map.Height - 1) (by omega) (by omega)]
 cases inB 0 1 u.Side with
 | false => simp [en_spec_sUnit]
 | true =>
  cases hk : inB 0 ((b.Rules.Kinds.length : Int) - 1) u.Kind with
  | false => simp [en_spec_sUnit]
  | true =>
   rw [inB_iff] at hk
   obtain ⟨x, hx⟩ := getI_ex hk.1 (l := b.Rules.Kinds) (by omega)
   have hko : kindO b u.Kind = x := by unfold kindO; rw [hx]; rfl
   rw [if_neg (by simp), if_neg (by simp), ixA_get sl_cKind _ _ hx, hko]
   cases inB 0 x.Steps u.Steps with
   | false => simp [en_spec_sUnit]
   | true =>
    rw [if_neg (by simp)]
    cases h1 : u.At == -1 with
    | true => simp [en_spec_sUnit]
    | false =>
     by_cases h2 : 0 < u.Steps
     ·cases h3 : inB 0 (b.Map.Width * b.Map.Height - 1) u.At with
      | false => simp [en_spec_sUnit, h2]
      | true =>
       rw [inB_iff] at h3
       rw [cast_of inj_spec_bCost (c_spec_bCost _ _ _ (g.cost_ex hk.1 (by omega) h3.1 (by omega)).1)]
       simp [en_spec_sUnit, h2]
     ·simp [en_spec_sUnit, h2]
theorem c_impl_goodUnit (b : DBoard) (u : DUnit) (g : BoardG b) : A_impl_goodUnit b u = some (en_impl_goodUnit (unitB b u)) := by
 apply e_impl_goodUnit
 unfold unitB
 have hk1 := g.k1
 have ha := g.s.area
 have ha2 := g.area
 simp only [kk_impl_inRange, cast_of inj_impl_sizeOf (c_impl_sizeOf _), cast_of inj_impl_isSide (c_impl_isSide _)]
 rw [cast_of inj_impl_isIndex (c_impl_isIndex _ _ (by omega) (by omega))]
 cases inB 0 1 u.Side with
 | false => simp [en_impl_goodUnit]
 | true =>
  cases hk : inB 0 ((b.Rules.Kinds.length : Int) - 1) u.Kind with
  | false => simp [en_impl_goodUnit]
  | true =>
   rw [inB_iff] at hk
   obtain ⟨x, hx⟩ := getI_ex hk.1 (l := b.Rules.Kinds) (by omega)
   have hko : kindO b u.Kind = x := by unfold kindO; rw [hx]; rfl
   rw [if_neg (by simp), if_neg (by simp), ixA_get sl_cKind _ _ hx, hko]
   cases inB 0 x.Steps u.Steps with
   | false => simp [en_impl_goodUnit]
   | true =>
    rw [if_neg (by simp)]
    cases h1 : u.At == -1 with
    | true => simp [en_impl_goodUnit]
    | false =>
     by_cases h2 : 0 < u.Steps
     ·rw [cast_of inj_impl_isIndex (c_impl_isIndex _ _ (by omega) (by omega)), ha2]
      cases h3 : inB 0 (b.Map.Width * b.Map.Height - 1) u.At with
      | false => simp [en_impl_goodUnit, h2]
      | true =>
       rw [inB_iff] at h3
       have hc := g.cost_ex hk.1 (by omega) h3.1 (by omega)
       rw [cast_of inj_impl_enterCost (c_impl_enterCost _ _ _ hc.1)]
       have : (costL b u.Kind u.At != 0) = decide (0 < costL b u.Kind u.At) := by
        rw [Bool.eq_iff_iff]; simp; omega
       simp [en_impl_goodUnit, h2, this]
     ·simp [en_impl_goodUnit, h2]
def cnt (l : List DUnit) (a s : Int) : Nat := (l.filter fun u => u.At == a && u.Side == s).length
theorem sAtL_len (l : List DUnit) (a s : Int) : (sAtL l a s).length = cnt l a s := by
 unfold sAtL cnt
 rw [List.length_map]
 have key : ∀ (l : List DUnit) (n : Nat), ((l.zipIdx n).filter fun p => p.1.At == a && p.1.Side == s).length = (l.filter fun u => u.At == a && u.Side == s).length := by
  intro l
  induction l with
  | nil => intro n; rfl
  | cons x l ih =>
   intro n
   rw [List.zipIdx_cons, List.filter_cons, List.filter_cons]
   split <;> simp [ih]
 exact key l 0
def placedB (b : DBoard) (us : List DUnit) (u : DUnit) : Bool := decide (u.At < 0) || (decide (cnt us u.At (1 - u.Side) = 0) && decide ((cnt us u.At u.Side : Int) ≤ b.Rules.Stack))
def stateB (b : DBoard) (s : DState) : Bool := inB 0 b.Rules.Turns s.Turn && (inB 0 2 s.Weather && (decide ((s.Units.length : Int) ≤ 12) && (s.Units.all (unitB b) && s.Units.all (placedB b s.Units))))
theorem unit_side {b : DBoard} {u : DUnit} (h : unitB b u = true) : u.Side = 0 ∨ u.Side = 1 := by
 unfold unitB at h
 simp only [Bool.and_eq_true, inB_iff] at h
 omega
theorem unit_at {b : DBoard} {u : DUnit} (h : unitB b u = true) : u.At = -1 ∨ 0 ≤ u.At ∧ u.At < b.Map.Width * b.Map.Height := by
 unfold unitB at h
 simp only [Bool.and_eq_true, Bool.or_eq_true, inB_iff, beq_iff_eq, decide_eq_true_eq] at h
 omega
theorem l_spec_sGood_L10 (b : DBoard) (s : DState) (hu : (s.Units.length : Int) ≤ 12) (ha : s.Units.all (unitB b) = true) : OLe (if s.Units.all (placedB b s.Units) then some (en_spec_sGood true) else some (en_spec_sGood false)) (L_spec_sGood_L10 b s s.Units s.Units.length 0) := by
 refine all_loop (fun i => L_spec_sGood_L10 b s s.Units s.Units.length i) s.Units _ _ _ ?_ (fun i x hx hi => ?_)
 ·intro _ h; apply e_spec_sGood_L10
  rw [if_neg (by simp), ← h]
  rfl
 ·intro _ h; apply e_spec_sGood_L10
  have hx1 := unit_side (List.all_eq_true.1 ha x (mem_of_get hx))
  rw [if_pos (by simpa using hi), ixA_at sl_cUnit rfl hx, wrap_id (by omega) (by omega), wrap_id (by omega) (by omega), cast_of inj_spec_sAt (c_spec_sAt _ _ _ (by omega)), sAtL_len, cast_of inj_spec_sAt (c_spec_sAt _ _ _ (by omega)), sAtL_len, ← h]
  unfold placedB
  by_cases h1 : x.At < 0
  ·rw [if_neg (by simp; omega)]
   simp [h1]
  ·rw [if_pos (by simp; omega)]
   by_cases h2 : cnt s.Units x.At (1 - x.Side) = 0
   ·rw [if_neg (by simp [h2])]
    by_cases h3 : (cnt s.Units x.At x.Side : Int) ≤ b.Rules.Stack
    ·rw [if_neg (by simpa using h3)]
     simp [h2, h3]
    ·rw [if_pos (by simpa using h3)]
     simp [h1, h3, en_spec_sGood]
   ·rw [if_pos (by simp; omega)]
    simp [h1, h2, en_spec_sGood]
theorem l_spec_sGood_L4 (b : DBoard) (s : DState) (g : BoardG b) (hu : (s.Units.length : Int) ≤ 12) : OLe (some (en_spec_sGood (s.Units.all (unitB b) && s.Units.all (placedB b s.Units)))) (L_spec_sGood_L4 b s s.Units s.Units.length 0) := by
 have st : ∀ (i : Nat) x, s.Units[i]? = some x → (i : Int) < s.Units.length → OLe (if unitB b x then L_spec_sGood_L4 b s s.Units s.Units.length ((i : Int) + 1) else some (en_spec_sGood false)) (L_spec_sGood_L4 b s s.Units s.Units.length i) := by
  intro i x hx hi r h
  apply e_spec_sGood_L4
  rw [if_pos (by simpa using hi), ixA_at sl_cUnit rfl hx, cast_of inj_spec_sUnit (c_spec_sUnit _ _ g), wrap_id (by omega) (by omega), ← h]
  cases unitB b x <;> simp [en_spec_sGood]
 cases ha : s.Units.all (unitB b) with
 | false =>
  have key := all_loop (fun i => L_spec_sGood_L4 b s s.Units s.Units.length i) s.Units (unitB b) (L_spec_sGood_L4 b s s.Units s.Units.length s.Units.length) _ (fun _ h => h) st
  rw [ha] at key
  exact key
 | true =>
  have key := all_loop (fun i => L_spec_sGood_L4 b s s.Units s.Units.length i) s.Units (unitB b) (some (en_spec_sGood (s.Units.all (placedB b s.Units)))) _ ?_ st
  ·rw [ha] at key
   simpa using key
  ·intro _ h; apply e_spec_sGood_L4
   rw [if_neg (by simp)]
   refine l_spec_sGood_L10 b s hu ha _ ?_
   rw [← h]
   cases s.Units.all (placedB b s.Units) <;> rfl
theorem c_spec_sGood (b : DBoard) (s : DState) (hn : BoardN b) (hs : s.Units.length < 1000000000000) : A_spec_sGood b s = some (en_spec_sGood (boardB b && stateB b s)) := by
 apply e_spec_sGood
 unfold stateB
 simp only [cast_of inj_spec_bGood (c_spec_bGood _ hn), kk_spec_l1In]
 cases hb : boardB b with
 | false => simp [en_spec_sGood]
 | true =>
  have g := BoardG.of hb
  cases inB 0 b.Rules.Turns s.Turn with
  | false => simp [en_spec_sGood]
  | true =>
   cases inB 0 2 s.Weather with
   | false => simp [en_spec_sGood]
   | true =>
    by_cases hu : (s.Units.length : Int) ≤ 12
    ·rw [if_neg (by simp), if_neg (by simp), if_neg (by simp), if_neg (by simpa using hu)]
     refine l_spec_sGood_L4 b s g hu _ ?_
     simp [hu]
    ·simp [hu, en_spec_sGood, show (12:Int) < s.Units.length by omega]
theorem flat_get {α : Type} {c : α → List AV} {s : Nat} (h : ∀ a, (c a).length = s) {l : List α} {j : Nat} {y : α} (hj : l[j]? = some y) {f : Nat} (hf : f < s) : (l.flatMap c)[j * s + f]? = (c y)[f]? := by
 rw [← flat_at h hj, List.getElem?_take, if_pos hf, List.getElem?_drop]
theorem mkA_z {γ α : Type} {G : Cfg} {σ : Store} {ty : TypeId} {c : α → List AV} {e by_ : Nat} (h : RowT G.P ty c e by_) {inl : Bool} {t : Nat} {z : α} (hz : ((slT G.P ty).bind (zeroT G.P)).map (·.map (nrm inl)) = some (c z))
  (ht : σ.has (.v t) = false) {n : Int} (h0 : 0 ≤ n) (hsz : n * by_ ≤ 140737488355328) (hsz2 : n ≤ 9223372036854775807) (k : List α → Option γ) :
  mkA G inl c e σ t ty (.sc (.int .i64 n)) (.sc (.int .i64 n)) k = k (List.replicate n.toNat z) := by
 refine mkA_eq h (fun et zs h1 h2 => ?_) ht h0 hsz hsz2 k
 rw [h1, Option.bind_some, h2] at hz
 simpa using hz
def colN {α β : Type} (p : Nat → α → Bool) (g : Nat → α → β) : Nat → List α → List β
 | _, [] => []
 | n, x :: r => if p n x then g n x :: colN p g (n + 1) r else colN p g (n + 1) r
def colI {α β : Type} (p : Nat → α → Bool) (g : Nat → α → β) (l : List α) : List β := colN p g 0 l
theorem colN_len {α β : Type} (p : Nat → α → Bool) (g : Nat → α → β) : ∀ (l : List α) (n : Nat), (colN p g n l).length ≤ l.length
 | [], _ => Nat.le_refl _
 | x :: r, n => by
  have := colN_len p g r (n + 1)
  unfold colN
  split <;> simp <;> omega
theorem colI_len {α β : Type} (p : Nat → α → Bool) (g : Nat → α → β) (l : List α) : (colI p g l).length ≤ l.length := colN_len p g l 0
theorem mem_colN {α β : Type} {p : Nat → α → Bool} {g : Nat → α → β} {y : β} : ∀ {l : List α} {n : Nat}, y ∈ colN p g n l ↔ ∃ i x, l[i]? = some x ∧ p (n + i) x = true ∧ g (n + i) x = y
 | [], n => by simp [colN]
 | x :: r, n => by
  have ih := @mem_colN α β p g y r (n + 1)
  unfold colN
  constructor
  ·intro h
   split at h
   ·rename_i hp
    rcases List.mem_cons.1 h with h | h
    ·exact ⟨0, x, rfl, hp, h.symm⟩
    ·obtain ⟨i, z, h1, h2, h3⟩ := ih.1 h
     exact ⟨i + 1, z, by simpa using h1, by rwa [show n + (i + 1) = n + 1 + i by omega], by rwa [show n + (i + 1) = n + 1 + i by omega]⟩
   ·obtain ⟨i, z, h1, h2, h3⟩ := ih.1 h
    exact ⟨i + 1, z, by simpa using h1, by rwa [show n + (i + 1) = n + 1 + i by omega], by rwa [show n + (i + 1) = n + 1 + i by omega]⟩
  ·rintro ⟨i, z, h1, h2, h3⟩
   match i with
   | 0 =>
    simp at h1; subst h1
    simp only [Nat.add_zero] at h2 h3
    rw [if_pos h2]
    simp [h3]
   | i + 1 =>
    have : y ∈ colN p g (n + 1) r := ih.2 ⟨i, z, by simpa using h1, by rwa [show n + 1 + i = n + (i + 1) by omega], by rwa [show n + 1 + i = n + (i + 1) by omega]⟩
    split
    ·exact List.mem_cons_of_mem _ this
    ·exact this
theorem mem_colI {α β : Type} {p : Nat → α → Bool} {g : Nat → α → β} {y : β} {l : List α} : y ∈ colI p g l ↔ ∃ i x, l[i]? = some x ∧ p i x = true ∧ g i x = y := by
 unfold colI
 rw [mem_colN]
 simp
theorem col_loop {α β γ : Type} (L : Int → List β → Option γ) (l : List α) (p : Nat → α → Bool) (g : Nat → α → β) (K : List β → Option γ) (nil : ∀ acc, acc.length ≤ l.length → OLe (K acc) (L l.length acc))
  (step : ∀ (i : Nat) x acc, l[i]? = some x → (i : Int) < l.length → acc.length ≤ i → OLe (if p i x then L ((i : Int) + 1) (acc ++ [g i x]) else L ((i : Int) + 1) acc) (L i acc)) : OLe (K (colI p g l)) (L 0 []) := by
 have key : ∀ (post pre : List α) (acc : List β), l = pre ++ post → acc.length ≤ pre.length → OLe (K (acc ++ colN p g pre.length post)) (L pre.length acc) := by
  intro post
  induction post with
  | nil => intro pre acc h ha; rw [List.append_nil] at h; subst h; simpa [colN] using nil acc ha
  | cons x post ih =>
   intro pre acc h ha r hr
   refine step _ x acc (mid_get h) (mid_lt h) ha r ?_
   unfold colN at hr
   cases hp : p pre.length x with
   | true =>
    have := ih (pre ++ [x]) (acc ++ [g pre.length x]) (by simpa using h) (by simp; omega)
    simp only [List.length_append, List.length_cons, List.length_nil] at this
    rw [if_pos rfl]
    refine this r ?_
    simpa [hp] using hr
   | false =>
    have := ih (pre ++ [x]) acc (by simpa using h) (by simp; omega)
    simp only [List.length_append, List.length_cons, List.length_nil] at this
    rw [if_neg (by simp)]
    refine this r ?_
    simpa [hp] using hr
 have := key l [] [] rfl (Nat.le_refl _)
 unfold colI
 simpa using this
theorem all_not {α : Type} (p : α → Bool) (l : List α) : l.all (fun x => !p x) = !l.any p := by
 induction l with
 | nil => rfl
 | cons a l ih => simp only [List.all_cons, List.any_cons, ih, Bool.not_or]
theorem any_loop {α γ : Type} (L : Int → Option γ) (l : List α) (p : α → Bool) (A Z : Option γ) (nil : OLe Z (L l.length))
  (step : ∀ (i : Nat) x, l[i]? = some x → (i : Int) < l.length → OLe (if p x then A else L ((i : Int) + 1)) (L i)) : OLe (if l.any p then A else Z) (L 0) := by
 have := all_loop L l (fun x => !p x) Z A nil (fun i x hx hi => by
  have := step i x hx hi
  cases hp : p x <;> simpa [hp] using this)
 rw [all_not] at this
 cases h : l.any p <;> simpa [h] using this
def dl : List Int := [0, 1, 2, 3, 4, 5]
theorem dl_get {i : Nat} {x : Int} (h : dl[i]? = some x) : x = i ∧ i < 6 := by
 have hi := (List.getElem?_eq_some_iff.1 h).1
 simp [dl] at hi
 have : i = 0 ∨ i = 1 ∨ i = 2 ∨ i = 3 ∨ i = 4 ∨ i = 5 := by omega
 rcases this with h' | h' | h' | h' | h' | h' <;> subst h' <;> simp_all [dl]
def freeL (m : DMap) (e : Int) : Bool := !decide (e ∈ m.Rivers) || decide (e ∈ m.Roads)
theorem absI_b (n B : Int) (h0 : -B ≤ n) (h1 : n ≤ B) : 0 ≤ absI n ∧ absI n ≤ B := by unfold absI; split <;> omega
def distL (a b : DHex) : Int := Int.tdiv (absI (b.Q - a.Q) + absI (b.R - a.R) + absI (b.Q - a.Q + (b.R - a.R))) 2
def hexB (h : DHex) : Prop := -100000000 ≤ h.Q ∧ h.Q ≤ 100000000 ∧ -100000000 ≤ h.R ∧ h.R ≤ 100000000
theorem c_spec_hDistance (a b : DHex) (ha : hexB a) (hb : hexB b) : A_spec_hDistance a b = some (en_spec_hDistance (distL a b)) := by
 apply e_spec_hDistance
 unfold hexB at ha hb
 have q := absI_b (b.Q - a.Q) 200000000 (by omega) (by omega)
 have r := absI_b (b.R - a.R) 200000000 (by omega) (by omega)
 have s := absI_b (b.Q - a.Q + (b.R - a.R)) 400000000 (by omega) (by omega)
 have w := Int.natAbs_tdiv_le_natAbs (absI (b.Q - a.Q) + absI (b.R - a.R) + absI (b.Q - a.Q + (b.R - a.R))) 2
 rw [wrap_id (n := b.Q - a.Q) (by omega) (by omega), wrap_id (n := b.R - a.R) (by omega) (by omega), wrap_id (n := b.Q - a.Q + (b.R - a.R)) (by omega) (by omega), cast_of inj_spec_l1Abs (c_spec_l1Abs _ (by omega) (by omega)), cast_of inj_spec_l1Abs (c_spec_l1Abs _ (by omega) (by omega)), cast_of inj_spec_l1Abs (c_spec_l1Abs _ (by omega) (by omega)),
  wrap_id (n := absI (b.Q - a.Q) + absI (b.R - a.R)) (by omega) (by omega), wrap_id (n := absI (b.Q - a.Q) + absI (b.R - a.R) + _) (by omega) (by omega), wrap_id (by omega) (by omega)]
 rfl
def exertD (b : DBoard) (u : DUnit) (i : Int) : Bool :=
 let d := findI (fun d => nextL b.Map u.At d == i) dl
 if d < 0 then false else freeL b.Map (edgeL b.Map u.At d)
def exertsL (b : DBoard) (u : DUnit) (i : Int) : Bool := !decide (u.At < 0) && ((kindO b u.Kind).Zone && (costL b u.Kind i != 0 && exertD b u i))
theorem unit_kind {b : DBoard} {u : DUnit} (h : unitB b u = true) : 0 ≤ u.Kind ∧ u.Kind < b.Rules.Kinds.length := by
 unfold unitB at h
 simp only [Bool.and_eq_true, inB_iff] at h
 omega
theorem BoardG.atsm {b : DBoard} (g : BoardG b) {u : DUnit} (hu : unitB b u = true) : sm u.At := by
 have := unit_at hu
 have := g.s.area
 unfold sm
 omega
structure StateG (b : DBoard) (s : DState) : Prop where
 bg : BoardG b
 n : MapN b.Map
 ok : stateB b s = true
 len : s.Units.length ≤ 12
 u : ∀ u ∈ s.Units, unitB b u = true
theorem StateG.of {b : DBoard} {s : DState} (hb : boardB b = true) (hn : MapN b.Map) (hs : stateB b s = true) : StateG b s := by
 have h := hs
 unfold stateB at h
 simp only [Bool.and_eq_true, decide_eq_true_eq, List.all_eq_true] at h
 exact ⟨BoardG.of hb, hn, hs, by omega, h.2.2.2.1⟩
def inZoneL (b : DBoard) (us : List DUnit) (side i : Int) : Bool := us.any fun u => u.Side == side && exertsL b u i
def foldN {α β : Type} (f : Nat → β → α → β) : Nat → β → List α → β
 | _, b, [] => b
 | n, b, x :: r => foldN f (n + 1) (f n b x) r
theorem fold_loop {α β γ : Type} (L : Int → β → Option γ) (l : List α) (f : Nat → β → α → β) (Inv : Nat → β → Prop) (K : β → Option γ) (nil : ∀ b, Inv l.length b → OLe (K b) (L l.length b))
  (step : ∀ (i : Nat) x b, l[i]? = some x → (i : Int) < l.length → Inv i b → Inv (i + 1) (f i b x) ∧ OLe (L ((i : Int) + 1) (f i b x)) (L i b)) (b : β) (hb : Inv 0 b) : OLe (K (foldN f 0 b l)) (L 0 b) := by
 have key : ∀ (post pre : List α) (b : β), l = pre ++ post → Inv pre.length b → OLe (K (foldN f pre.length b post)) (L pre.length b) := by
  intro post
  induction post with
  | nil => intro pre b h hb; rw [List.append_nil] at h; subst h; exact nil b hb
  | cons x post ih =>
   intro pre b h hb r hr
   have st := step _ x b (mid_get h) (mid_lt h) hb
   refine st.2 r ?_
   have := ih (pre ++ [x]) (f pre.length b x) (by simpa using h) (by simpa using st.1)
   simp only [List.length_append, List.length_cons, List.length_nil] at this
   exact this r hr
 exact key l [] b rfl hb
def gameB (b : DBoard) (s : DState) : Bool := boardB b && stateB b s
theorem StateG.ofB {b : DBoard} {s : DState} (h : gameB b s = true) (hn : BoardN b) : StateG b s := by
 unfold gameB at h
 rw [Bool.and_eq_true] at h
 exact StateG.of h.1 hn.m h.2
def onMapB (us : List DUnit) (u : Int) : Bool := ((getI us u).map fun x => decide (0 ≤ x.At)).getD false
theorem distL_nn (a b : DHex) : 0 ≤ distL a b := by
 unfold distL
 have q := absI_b (b.Q - a.Q) (absI (b.Q - a.Q))
 have : ∀ n, 0 ≤ absI n := fun n => by unfold absI; split <;> omega
 have h := this (b.Q - a.Q); have h2 := this (b.R - a.R); have h3 := this (b.Q - a.Q + (b.R - a.R))
 exact Int.tdiv_nonneg (by omega) (by omega)
theorem slO_hi {α γ : Type} {P : Program} {σ : Store} {ty : TypeId} {c : α → List AV} {e by_ : Nat} (h : RowT P ty c e by_) {id : Id} {fr nest : Bool} {l : List α} (hb : σ.get? id = some (rowB fr nest e c l)) {off n cap : Nat} {i : Int} {j : Nat} (hi : i = j) (hj : j ≤ cap) (k : Nat × Nat → Option γ) :
  cast (fun a : Nat × Nat => AV.own id none off a.1 a.2) (evSlice P σ ty (.own id none off n cap) none (some (.sc (.int .i64 i))) none) k = k (j, cap) := by
 obtain ⟨et, z, h1, h2, _⟩ := h.ex
 refine cast_of (fun a b he => ?_) ?_ k
 ·injection he with _ _ _ h3 h4
  exact Prod.ext h3 h4
 ·subst hi
  have hr : rowOf σ id none = some (l.flatMap c, e) := by simp only [rowOf, hb, rowB, if_true]
  unfold evSlice
  simp only [h1, h2, hr, if_true]
  simp only [evBounds, bMax, bHi, bLo, bound, underMax, Option.bind_some]
  rw [if_pos ⟨by omega, by omega, trivial⟩]
  simp
theorem slO_lo {α γ : Type} {P : Program} {σ : Store} {ty : TypeId} {c : α → List AV} {e by_ : Nat} (h : RowT P ty c e by_) {id : Id} {fr nest : Bool} {l : List α} (hb : σ.get? id = some (rowB fr nest e c l)) {n cap : Nat} {i : Int} {j : Nat} (hi : i = j) (hj : j ≤ n) (k : Nat × Nat × Nat → Option γ) :
  cast (fun a : Nat × Nat × Nat => AV.own id none (a.1 * e) a.2.1 a.2.2) (evSlice P σ ty (.own id none 0 n cap) (some (.sc (.int .i64 i))) none none) k = k (j, n - j, cap - j) := by
 obtain ⟨et, z, h1, h2, _⟩ := h.ex
 refine cast_of (fun a b he => ?_) ?_ k
 ·injection he with _ _ h5 h3 h4
  exact Prod.ext (Nat.eq_of_mul_eq_mul_right h.pos h5) (Prod.ext h3 h4)
 ·subst hi
  have hr : rowOf σ id none = some (l.flatMap c, e) := by simp only [rowOf, hb, rowB, if_true]
  unfold evSlice
  simp only [h1, h2, hr, if_true]
  simp only [evBounds, bMax, bHi, bLo, bound, Option.bind_some, Option.isNone_none, if_true]
  rw [if_pos ⟨by omega, by omega⟩]
  simp
theorem Src.part {α : Type} {σ : Store} {c : α → List AV} {e : Nat} (h : COk c e) {id : Id} {fr nest : Bool} {xs : List α} (hb : σ.get? id = some (rowB fr nest e c xs)) {off o n cap : Nat} (ho : off = o * e) (hn : o + n ≤ xs.length) : Src σ c e (.own id none off n cap) ((xs.drop o).take n) := ⟨by
 subst ho
 have hl : ((xs.drop o).take n).length = n := by rw [List.length_take, List.length_drop]; omega
 simp only [elems, rowOf, hb, rowB, if_true]
 unfold takeAt
 rw [if_pos (by rw [flat_len h.len, ← Nat.add_mul]; exact Nat.mul_le_mul_right _ hn)]
 simp only [Option.map_some, AV.refs]
 rw [flat_drop h.len, flat_take h.len, hl]⟩
theorem okA {A P : Option R} {α : Type} {en : α → R} {Q : α → Prop} (e : OLe P A) (h : OK P fun r => ∃ v, r = en v ∧ Q v) : ∃ v, A = some (en v) ∧ Q v := by
 obtain ⟨r, hr, v, rfl, hq⟩ := h
 exact ⟨v, e _ hr, hq⟩
theorem OK.cast {α β γ : Type} {enc : α → β} (hi : Inj enc) {r : Option β} {a : α} (hr : r = Option.some (enc a)) {k : α → Option γ} {Q : γ → Prop} (h : OK (k a) Q) : OK (Ev.cast enc r k) Q := by
 rw [cast_of hi hr]; exact h
theorem koA {α β γ : Type} {enc : α → β} (hi : Inj enc) {r : Option β} {Q : α → Prop} (h : ∃ a, r = some (enc a) ∧ Q a) {k : α → Option γ} {Q' : γ → Prop} (hk : ∀ a, Q a → OK (k a) Q') : OK (Ev.cast enc r k) Q' := by
 obtain ⟨a, h1, h2⟩ := h
 rw [cast_of hi h1]
 exact hk a h2
theorem OK.eq {γ : Type} {a b : Option γ} {Q : γ → Prop} (h : a = b) (k : OK b Q) : OK a Q := h ▸ k
structure Cu (c : Dl1Cur) (n : Int) : Prop where
 h0 : 0 ≤ c.at_
 h1 : c.at_ ≤ n
 hl : ∃ l : List UInt8, (default : Known).kn (.slice c.code_.A c.code_.n c.code_.k) = some (l.length, l.flatMap cY) ∧ l.length = c.code_.n
theorem inj_kn : Inj fun l : List UInt8 => (l.length, l.flatMap cY) := fun a b h => by
 injection h with h1 h2
 exact flat_inj ok_cY a b h1 h2
theorem Cu.mono {c : Dl1Cur} {n m : Int} (h : Cu c n) (hm : n ≤ m) : Cu c m := ⟨h.h0, by have := h.h1; omega, h.hl⟩
theorem Cu.to {c : Dl1Cur} {n m : Int} (h : Cu c n) (hm : n ≤ m := by omega) : Cu c m := h.mono hm
abbrev Far : Int := 1000000000000000
theorem o_sc_next (c : Dl1Cur) (n : Int) (h : Cu c n) (hn : n ≤ Far) : ∃ v, A_sc_next c = some (en_sc_next v) ∧ (0 ≤ v.1 ∧ v.1 ≤ 255 ∧ Cu v.2 (n + 1)) := by
 refine okA (e_sc_next _) ?_
 obtain ⟨h0, h1, l, hk, hln⟩ := h
 unfold Far at hn
 have hw : IntKind.wrap .i64 (c.at_ + 1) = c.at_ + 1 := wrap_id (by omega) (by omega)
 simp only [hw]
 have h255 : ∀ s : Int, 0 ≤ (IntKind.wrap IntKind.i64 (IntKind.wrap IntKind.u64 (↑(BitVec.toNat (BitVec.ofInt (IntKind.bits IntKind.u64) s &&& BitVec.ofInt (IntKind.bits IntKind.u64) 255)) : Int))) ∧ (IntKind.wrap IntKind.i64 (IntKind.wrap IntKind.u64 (↑(BitVec.toNat (BitVec.ofInt (IntKind.bits IntKind.u64) s &&& BitVec.ofInt (IntKind.bits IntKind.u64) 255)) : Int))) ≤ 255 := by
  intro s
  have hle : BitVec.toNat (BitVec.ofInt (IntKind.bits IntKind.u64) s &&& BitVec.ofInt (IntKind.bits IntKind.u64) 255) ≤ 255 := by
   rw [BitVec.toNat_and]
   exact Nat.and_le_right
  generalize BitVec.toNat (BitVec.ofInt (IntKind.bits IntKind.u64) s &&& BitVec.ofInt (IntKind.bits IntKind.u64) 255) = m at hle
  have e1 : IntKind.wrap IntKind.u64 (m : Int) = m := by
   rw [IntKind.wrap_u64]; omega
  rw [e1, wrap_id (by omega) (by omega)]
  omega
 have hcu : ∀ s, Cu { code_ := c.code_, at_ := c.at_ + 1, seed_ := s } (n + 1) := fun s => ⟨by show 0 ≤ c.at_ + 1; omega, by show c.at_ + 1 ≤ n + 1; omega, l, hk, hln⟩
 refine OK.ite (fun hc => ?_) (fun hc => ?_)
 ·simp only [decide_eq_true_eq] at hc
  obtain ⟨x, hx⟩ := getI_ex h0 (l := l) (by omega)
  unfold knA
  rw [cast_of inj_kn hk, ixA_get sl_cY _ _ hx]
  have hb := x.toNat_lt
  have e2 : IntKind.wrap .i64 (x.toNat : Int) = x.toNat := wrap_id (by omega) (by omega)
  refine OK.ite (fun _ => ?_) (fun _ => ?_)
  ·refine OK.some ⟨(_, _), rfl, ?_, ?_, hcu _⟩
   ·show 0 ≤ IntKind.wrap .i64 (x.toNat : Int)
    rw [e2]; omega
   ·show IntKind.wrap .i64 (x.toNat : Int) ≤ 255
    rw [e2]; omega
  ·exact OK.some ⟨(_, _), rfl, (h255 _).1, (h255 _).2, hcu _⟩
 ·refine OK.ite (fun _ => ?_) (fun _ => ?_)
  ·exact OK.some ⟨(_, _), rfl, by show (0:Int) ≤ 0; omega, by show (0:Int) ≤ 255; omega, hcu _⟩
  ·exact OK.some ⟨(_, _), rfl, (h255 _).1, (h255 _).2, hcu _⟩
theorem o_sc_pick (c : Dl1Cur) (k : Int) (n : Int) (h : Cu c n) (hn : n ≤ Far - 10) : ∃ v, A_sc_pick c k = some (en_sc_pick v) ∧ (0 ≤ v.1 ∧ (v.1 < k ∨ v.1 = 0) ∧ Cu v.2 (n + 2)) := by
 refine okA (e_sc_pick _ _) ?_
 unfold Far at hn
 refine OK.ite (fun hc => ?_) (fun hc => ?_)
 ·exact OK.some ⟨(_, _), rfl, by show (0:Int) ≤ 0; omega, .inr rfl, h.to⟩
 ·simp only [decide_eq_true_eq] at hc
  refine koA inj_sc_next (o_sc_next _ _ h (by unfold Far; omega)) fun v hv => ?_
  refine OK.ite (fun hc2 => ?_) (fun hc2 => ?_)
  ·refine koA inj_sc_next (o_sc_next _ (n + 1) hv.2.2 (by unfold Far at *; omega)) fun u hu => ?_
   rw [if_neg (by omega)]
   have hv1 := hv.1; have hv2 := hv.2.1; have hu1 := hu.1; have hu2 := hu.2.1
   have e1 : IntKind.wrap .i64 (v.1 * 256) = v.1 * 256 := wrap_id (by omega) (by omega)
   rw [e1, wrap_id (by omega) (by omega)]
   have a := Int.tmod_nonneg k (a := v.1 * 256 + u.1) (by omega)
   have b := Int.tmod_lt_of_pos (v.1 * 256 + u.1) (b := k) (by omega)
   exact OK.some ⟨(_, _), rfl, a, .inl b, hu.2.2.to⟩
  ·rw [if_neg (by omega)]
   have hv1 := hv.1; have hv2 := hv.2.1
   have a := Int.tmod_nonneg k (a := v.1) (by omega)
   have b := Int.tmod_lt_of_pos v.1 (b := k) (by omega)
   exact OK.some ⟨(_, _), rfl, a, .inl b, hv.2.2.to⟩
theorem o_sc_one (c : Dl1Cur) (k : Int) (n : Int) (h : Cu c n) (hn : n ≤ Far - 10) : ∃ v, A_sc_one c k = some (en_sc_one v) ∧ Cu v.2 (n + 2) := by
 refine okA (e_sc_one _ _) ?_
 refine koA inj_sc_pick (o_sc_pick _ _ _ h (by unfold Far at *; omega)) fun v hv => ?_
 exact OK.some ⟨(_, _), rfl, hv.2.2⟩
theorem o_sc_among (c : Dl1Cur) (l : List Int) (n : Int) (h : Cu c n) (hn : n ≤ Far - 10) (hl : l ≠ []) : ∃ v, A_sc_among c l = some (en_sc_among v) ∧ v.1 ∈ l ∧ Cu v.2 (n + 2) := by
 refine okA (e_sc_among _ _) ?_
 refine koA inj_sc_pick (o_sc_pick _ _ _ h (by unfold Far at *; omega)) fun v hv => ?_
 have := List.length_pos_iff.2 hl
 obtain ⟨x, hx⟩ := getI_ex hv.1 (l := l) (by omega)
 rw [ixA_get sl_cI _ _ hx]
 obtain ⟨i, _, hi, _⟩ := getI_some hx
 exact OK.some ⟨(_, _), rfl, mem_of_get hi, hv.2.2⟩
theorem o_sc_of (c : Dl1Cur) (l : List ByteArray) (n : Int) (h : Cu c n) (hn : n ≤ Far - 10) (hl : l ≠ []) : ∃ v, A_sc_of c l = some (en_sc_of v) ∧ v.1 ∈ l ∧ Cu v.2 (n + 2) := by
 refine okA (e_sc_of _ _) ?_
 refine koA inj_sc_pick (o_sc_pick _ _ _ h (by unfold Far at *; omega)) fun v hv => ?_
 have := List.length_pos_iff.2 hl
 obtain ⟨x, hx⟩ := getI_ex hv.1 (l := l) (by omega)
 rw [ixA_get sl_cS _ _ hx]
 obtain ⟨i, _, hi, _⟩ := getI_some hx
 exact OK.some ⟨(_, _), rfl, mem_of_get hi, hv.2.2⟩
theorem o_sc_place (c : Dl1Cur) (m : DMap) (n : Int) (h : Cu c n) (hn : n ≤ Far - 20) : ∃ v, A_sc_place c m = some (en_sc_place v) ∧ Cu v.2 (n + 4) := by
 refine okA (e_sc_place _ _) ?_
 refine koA inj_sc_one (o_sc_one _ _ _ h (by unfold Far at *; omega)) fun v hv => ?_
 refine OK.ite (fun _ => ?_) (fun _ => ?_)
 ·rw [cast_of inj_spec_mSize (c_spec_mSize _)]
  refine OK.cast (slc_inj ok_cI) (a := [-1, _]) rfl ?_
  refine koA inj_sc_among (o_sc_among _ _ (n + 2) hv (by unfold Far at *; omega) (by simp)) fun u hu => ?_
  exact OK.some ⟨(_, _), rfl, hu.2.to⟩
 ·rw [cast_of inj_spec_mSize (c_spec_mSize _), cast_of inj_spec_l1Most (c_spec_l1Most _ _)]
  refine koA inj_sc_pick (o_sc_pick _ _ (n + 2) hv (by unfold Far at *; omega)) fun u hu => ?_
  exact OK.some ⟨(_, _), rfl, hu.2.2.to⟩
theorem o_spec_l1Put (l : List Int) (n : Int) (hl : l.length < 1000000000) : A_spec_l1Put l 0 l.length l.length n = some (en_spec_l1Put (l.length, l)) ∨ ∃ l', l'.length = l.length + 1 ∧ A_spec_l1Put l 0 l.length l.length n = some (en2_spec_l1Put (l', l)) := by
 have key : ∀ m i : Nat, i + m = l.length → L_spec_l1Put_L2 l 0 l.length l.length n i = some (en_spec_l1Put (l.length, l)) ∨ ∃ l', l'.length = l.length + 1 ∧ L_spec_l1Put_L2 l 0 l.length l.length n i = some (en2_spec_l1Put (l', l)) := by
  intro m
  induction m with
  | zero =>
   intro i hi
   right
   refine ⟨(l.drop 0).take i ++ [n] ++ (l.drop i).take (l.length - i), by simp; omega, ?_⟩
   apply e_spec_l1Put_L2
   rw [if_neg (by simp; omega), if_neg (by simp; omega)]
   refine (slO_hi rt_cI (l := l) rfl rfl (by omega) _).trans ?_
   dsimp only
   rw [apR_eq rt_cI (l := []) (n := 0) (xs := (l.drop 0).take i) rfl (Src.part ok_cI (fr := false) (nest := false) (xs := l) rfl (o := 0) (by simp) (by omega)) rfl rfl (by simp; omega) (by simp; omega) rfl,
    apR_eq rt_cI (l := [] ++ (l.drop 0).take i) (xs := [n]) rfl (Src.row (n := 1) ok_cI rfl rfl) rfl rfl (by simp; omega) (by simp; omega) rfl]
   refine (slO_lo rt_cI (l := l) (j := i) rfl rfl (by omega) _).trans ?_
   dsimp only
   rw [apR_eq rt_cI (l := [] ++ (l.drop 0).take i ++ [n]) (xs := (l.drop i).take (l.length - i)) rfl (Src.part ok_cI (fr := false) (nest := false) (xs := l) rfl (o := i) rfl (by omega)) rfl rfl (by simp; omega) (by simp; omega) rfl]
   simp [en2_spec_l1Put]
  | succ m ih =>
   intro i hi
   have hx : l[i]? = some l[i] := List.getElem?_eq_getElem (by omega)
   have hw : IntKind.wrap .i64 ((i : Int) + 1) = ((i + 1 : Nat) : Int) := by rw [wrap_id (by omega) (by omega)]; rfl
   by_cases h1 : l[i] < n
   ·have e : ∀ r, L_spec_l1Put_L2 l 0 l.length l.length n ((i + 1 : Nat) : Int) = some r → L_spec_l1Put_L2 l 0 l.length l.length n i = some r := by
     intro r hr
     apply e_spec_l1Put_L2
     rw [if_pos (by simp; omega), oxA_at rt_cI rfl (by omega)]
     refine (ld_at (E := tI) rfl rfl ok_cI (fun _ => rfl) rfl rfl hx _).trans ?_
     rw [if_pos (by simpa using h1), hw]
     exact hr
    rcases ih (i + 1) (by omega) with h | ⟨l', hl', h⟩
    ·exact .inl (e _ h)
    ·exact .inr ⟨l', hl', e _ h⟩
   ·by_cases h2 : l[i] = n
    ·left
     apply e_spec_l1Put_L2
     rw [if_pos (by simp; omega), oxA_at rt_cI rfl (by omega)]
     refine (ld_at (E := tI) rfl rfl ok_cI (fun _ => rfl) rfl rfl hx _).trans ?_
     rw [if_neg (by simpa using h1), if_pos (by simp; omega), oxA_at rt_cI rfl (by omega)]
     refine (ld_at (E := tI) rfl rfl ok_cI (fun _ => rfl) rfl rfl hx _).trans ?_
     rw [if_pos (by simpa using h2)]
     rfl
    ·right
     refine ⟨(l.drop 0).take i ++ [n] ++ (l.drop i).take (l.length - i), by simp; omega, ?_⟩
     apply e_spec_l1Put_L2
     rw [if_pos (by simp; omega), oxA_at rt_cI rfl (by omega)]
     refine (ld_at (E := tI) rfl rfl ok_cI (fun _ => rfl) rfl rfl hx _).trans ?_
     rw [if_neg (by simpa using h1), if_pos (by simp; omega), oxA_at rt_cI rfl (by omega)]
     refine (ld_at (E := tI) rfl rfl ok_cI (fun _ => rfl) rfl rfl hx _).trans ?_
     rw [if_neg (by simpa using h2)]
     refine (slO_hi rt_cI (l := l) rfl rfl (by omega) _).trans ?_
     dsimp only
     rw [apR_eq rt_cI (l := []) (n := 0) (xs := (l.drop 0).take i) rfl (Src.part ok_cI (fr := false) (nest := false) (xs := l) rfl (o := 0) (by simp) (by omega)) rfl rfl (by simp; omega) (by simp; omega) rfl,
      apR_eq rt_cI (l := [] ++ (l.drop 0).take i) (xs := [n]) rfl (Src.row (n := 1) ok_cI rfl rfl) rfl rfl (by simp; omega) (by simp; omega) rfl]
     refine (slO_lo rt_cI (l := l) (j := i) rfl rfl (by omega) _).trans ?_
     dsimp only
     rw [apR_eq rt_cI (l := [] ++ (l.drop 0).take i ++ [n]) (xs := (l.drop i).take (l.length - i)) rfl (Src.part ok_cI (fr := false) (nest := false) (xs := l) rfl (o := i) rfl (by omega)) rfl rfl (by simp; omega) (by simp; omega) rfl]
     simp [en2_spec_l1Put]
 have e : ∀ r, L_spec_l1Put_L2 l 0 l.length l.length n (0 : Nat) = some r → A_spec_l1Put l 0 l.length l.length n = some r := fun r hr => e_spec_l1Put _ _ _ _ _ _ hr
 rcases key l.length 0 (by omega) with h | ⟨l', hl', h⟩
 ·exact .inl (e _ h)
 ·exact .inr ⟨l', hl', e _ h⟩
theorem ok_spec_l1Put {γ : Type} (l : List Int) (n : Int) (hl : l.length < 1000000000) {k : Nat × List Int → Option γ} {k' : List Int × List Int → Option γ} {Q : γ → Prop} (h1 : OK (k (l.length, l)) Q) (h2 : ∀ l', l'.length = l.length + 1 → OK (k' (l', l)) Q) :
  OK (cl_spec_l1Put l 0 l.length l.length n k k') Q := by
 rcases o_spec_l1Put l n hl with h | ⟨l', hl', h⟩
 ·rw [k_spec_l1Put _ _ _ _ _ h]; exact h1
 ·rw [k2_spec_l1Put _ _ _ _ _ h]; exact h2 l' hl'
theorem immL_flat {α : Type} {c : α → List AV} (h : ∀ a, AV.immL (c a) = false) : ∀ l : List α, AV.immL (l.flatMap c) = false
 | [] => rfl
 | a :: r => by
  have ih := immL_flat h r
  have key : ∀ xs ys : List AV, AV.immL xs = false → AV.immL ys = false → AV.immL (xs ++ ys) = false := by
   intro xs
   induction xs with
   | nil => intro ys _ hy; exact hy
   | cons x xs ihx =>
    intro ys hx hy
    simp only [AV.immL, Bool.or_eq_false_iff] at hx
    simp only [List.cons_append, AV.immL, Bool.or_eq_false_iff]
    exact ⟨hx.1, ihx ys hx.2 hy⟩
  rw [List.flatMap_cons]
  exact key _ _ (h a) ih
theorem gd_eq {α γ : Type} {c : α → List AV} (h : ∀ a, AV.immL (c a) = false) (l : List α) (k : Option γ) : gdA (l.flatMap c) k = k := by
 unfold gdA
 rw [immL_flat h l, if_neg (by simp)]
theorem imm_cI (a : Int) : AV.immL (cI a) = false := rfl
theorem imm_cUnit (a : DUnit) : AV.immL (cUnit a) = false := rfl
theorem giveR {α : Type} {σ : Store} {c : α → List AV} {e : Nat} (h : COk c e) {id : Id} {fr : Bool} {l : List α} (hb : σ.get? id = some (rowB fr false e c l)) : giveUp σ (.own id none 0 l.length l.length) = some (slc c l) := by
 simp only [giveUp, rowOf, hb, rowB, if_true]
 unfold takeAt
 rw [if_pos (by rw [flat_len h.len]; omega)]
 simp only [List.drop_zero, Option.map_some, Option.isNone_none, Option.getD_some, Bool.false_eq_true, and_false, if_false, if_true]
 rw [List.take_of_length_le (by rw [flat_len h.len]; exact Nat.le_refl _)]
 rfl
theorem giveN {α : Type} {σ : Store} {c : α → List AV} {e : Nat} (h : COk c e) {id : Id} {fr : Bool} {l : List α} {n cap : Nat} (hn : n ≤ l.length) (hb : σ.get? id = some (rowB fr false e c l)) : giveUp σ (.own id none 0 n cap) = some (slc c (l.take n)) := by
 simp only [giveUp, rowOf, hb, rowB, if_true]
 unfold takeAt
 rw [if_pos (by rw [flat_len h.len, Nat.zero_add]; exact Nat.mul_le_mul_right _ hn)]
 simp only [List.drop_zero, Option.map_some, Option.isNone_none, Option.getD_some, Bool.false_eq_true, and_false, if_false, if_true]
 rw [flat_take h.len]
 unfold slc
 rw [List.length_take, Nat.min_eq_left hn]
theorem gvL_nil {σ : Store} : giveUpL σ [] = some [] := rfl
theorem gvL_cons {σ : Store} {x y : AV} {r s : List AV} (h : giveUp σ x = some y) (t : giveUpL σ r = some s) : giveUpL σ (x :: r) = some (y :: s) := by
 simp only [giveUpL, h, t, Option.bind_some]
theorem gvV {σ : Store} {r s : List AV} (t : giveUpL σ r = some s) : giveUpV σ (.agg r) = some (.agg s) := by
 simp only [giveUpV, t, Option.map_some]
theorem gvT {σ : Store} {r s : List AV} (t : giveUpL σ r = some s) : giveUpT σ (.agg r) = some (.agg s) := gvV t
theorem gvVs_cons {σ : Store} {x y : AV} {r s : List AV} (h : giveUpV σ x = some y) (t : giveUpVs σ r = some s) : giveUpVs σ (x :: r) = some (y :: s) := by
 simp only [giveUpVs, h, t, Option.bind_some]
theorem gvTup {σ : Store} {r s : List AV} (t : giveUpVs σ r = some s) : giveUpT σ (.tup r) = some (.tup s) := by
 simp only [giveUpT, t, Option.map_some]
theorem inj_map : Inj fun a : DMap => AV.agg [I a.Width, I a.Height, slc cI a.Terrain, slc cI a.Rivers, slc cI a.Roads] := fun a b h => (cMap_eq a b).1 (by injection h)
theorem inj_state : Inj fun a : DState => AV.agg [I a.Turn, I a.Weather, slc cUnit a.Units] := fun a b h => (cState_eq a b).1 (by injection h)
theorem inj_rules : Inj fun a : DRules => AV.agg [slc cTerrain a.Terrains, slc cKind a.Kinds, I a.Stack, I a.River, I a.Road, I a.Supply, I a.Turns] := fun a b h => (cRules_eq a b).1 (by injection h)
theorem inj_board : Inj fun a : DBoard => AV.agg [slc cTerrain a.Rules.Terrains, slc cKind a.Rules.Kinds, I a.Rules.Stack, I a.Rules.River, I a.Rules.Road, I a.Rules.Supply, I a.Rules.Turns, I a.Map.Width, I a.Map.Height, slc cI a.Map.Terrain, slc cI a.Map.Rivers, slc cI a.Map.Roads] := fun a b h => (cBoard_eq a b).1 (by injection h)
theorem l_sc_edges_L3 (m : DMap) (hm : MapB m) : ∀ (k : Nat) (l : List Int) (c : Dl1Cur) (n : Int), k ≤ 100 → l.length + k ≤ 200 → Cu c n → n ≤ Far - 100 - 4 * k →
  ∃ v, L_sc_edges_L3 l c m 0 l.length l.length k = some (en_sc_edges v) ∧ (v.1.length ≤ l.length + k ∧ Cu v.2 (n + 4 * k)) := by
 intro k
 induction k with
 | zero =>
  intro l c n _ _ hc hn
  refine okA (e_sc_edges_L3 _ _ _ _ _ _ _) ?_
  rw [if_neg (by simp)]
  exact OK.some ⟨(l, c), rfl, by show l.length ≤ _; omega, hc.to⟩
 | succ k ih =>
  intro l c n hk hl hc hn
  unfold Far at hn
  refine okA (e_sc_edges_L3 _ _ _ _ _ _ _) ?_
  have hw : IntKind.wrap .i64 (((k + 1 : Nat) : Int) - 1) = (k : Int) := by rw [wrap_id (by omega) (by omega)]; omega
  have hw0 := hm.w0; have hw1 := hm.w1; have hh0 := hm.h0; have hh1 := hm.h1
  have hsz : -1000000000000 ≤ m.Width * m.Height ∧ m.Width * m.Height ≤ 1000000000000 := by
   have a := Int.mul_le_mul_of_nonneg_left hh1 (show 0 ≤ m.Width by omega)
   have b := Int.mul_le_mul_of_nonneg_left hh0 (show 0 ≤ m.Width by omega)
   omega
  rw [if_pos (by simp), cast_of inj_spec_mSize (c_spec_mSize _), wrap_id (n := m.Width * m.Height) (by omega) (by omega)]
  refine koA inj_sc_pick (o_sc_pick _ _ _ hc (by unfold Far; omega)) fun v hv => ?_
  refine koA inj_sc_pick (o_sc_pick _ _ (n + 2) hv.2.2 (by unfold Far; omega)) fun u hu => ?_
  have hvs : sm v.1 := by unfold sm; omega
  rw [cast_of inj_spec_mNext (c_spec_mNext _ _ _ hm hvs hu.1 (by omega)), hw]
  refine OK.ite (fun hd => ?_) (fun hd => ?_)
  ·rw [cast_of inj_spec_mEdge (c_spec_mEdge _ _ _ hm hvs hu.1 (by omega))]
   refine ok_spec_l1Put l _ (by omega) ?_ (fun l' hl' => ?_)
   ·obtain ⟨r, h1, h2⟩ := ih l u.2 (n + 4) (by omega) (by omega) (hu.2.2.to) (by unfold Far; omega)
    exact ⟨_, h1, r, rfl, by omega, h2.2.to⟩
   ·obtain ⟨r, h1, h2⟩ := ih l' u.2 (n + 4) (by omega) (by omega) (hu.2.2.to) (by unfold Far; omega)
    exact ⟨_, h1, r, rfl, by omega, h2.2.to⟩
  ·obtain ⟨r, h1, h2⟩ := ih l u.2 (n + 4) (by omega) (by omega) (hu.2.2.to) (by unfold Far; omega)
   exact ⟨_, h1, r, rfl, by omega, h2.2.to⟩
theorem o_sc_edges (c : Dl1Cur) (m : DMap) (hm : MapB m) (n : Int) (hc : Cu c n) (hn : n ≤ Far - 1000) : ∃ v, A_sc_edges c m = some (en_sc_edges v) ∧ (v.1.length ≤ 10 ∧ Cu v.2 (n + 40)) := by
 refine okA (e_sc_edges _ _) ?_
 unfold Far at hn
 refine koA inj_sc_pick (o_sc_pick _ _ _ hc (by unfold Far; omega)) fun v hv => ?_
 obtain ⟨k, hk⟩ : ∃ k : Nat, v.1 = k := ⟨v.1.toNat, by omega⟩
 obtain ⟨r, h1, h2⟩ := l_sc_edges_L3 m hm k [] v.2 (n + 2) (by omega) (by simp; omega) hv.2.2 (by unfold Far; omega)
 rw [hk]
 simp only [List.length_nil] at h2
 exact ⟨_, h1, r, rfl, by omega, h2.2.to⟩
structure MapD (m : DMap) : Prop where
 w : 1 ≤ m.Width ∧ m.Width ≤ 6
 h : 1 ≤ m.Height ∧ m.Height ≤ 6
 t : (m.Terrain.length : Int) = m.Width * m.Height
 r : m.Rivers.length ≤ 20
 d : m.Roads.length ≤ 20
theorem MapD.b {m : DMap} (h : MapD m) : MapB m := by
 have := h.w; have := h.h
 exact ⟨by omega, by omega, by omega, by omega⟩
theorem sz36 {w h : Int} (hw : 1 ≤ w ∧ w ≤ 6) (hh : 1 ≤ h ∧ h ≤ 6) : 1 ≤ w * h ∧ w * h ≤ 36 := by
 have a := Int.mul_le_mul hw.2 hh.2 (by omega) (by omega)
 have b := Int.mul_le_mul hw.1 hh.1 (by omega) (by omega)
 omega
theorem l_sc_mapOf_L3 (a0 a1 w h t : Int) (hw : 1 ≤ w ∧ w ≤ 6) (hh : 1 ≤ h ∧ h ≤ 6) : ∀ (k : Nat) (i : Nat) (l : List Int) (c : Dl1Cur) (n : Int), (i : Int) + k = w * h → l.length = i → Cu c n → n ≤ Far - 10000 - 4 * k →
  ∃ v, L_sc_mapOf_L3 l c a0 a1 w h t i = some (en_sc_mapOf v) ∧ (MapD v.1 ∧ Cu v.2 (n + 4 * k + 100)) := by
 have hs := sz36 hw hh
 intro k
 induction k with
 | zero =>
  intro i l c n hi hl hc hn
  unfold Far at hn
  refine okA (e_sc_mapOf_L3 _ _ _ _ _ _ _ _) ?_
  have hmb : ∀ a b c, MapB ⟨w, h, a, b, c⟩ := fun a b c => ⟨by show 0 < w; omega, by show w ≤ _; omega, by show _ ≤ h; omega, by show h ≤ _; omega⟩
  refine OK.cast inj_map (a := ⟨w, h, l, [], []⟩) (gvV (by repeat first | exact gvL_nil | refine gvL_cons (by first | exact giveR ok_cI rfl | exact rfl) ?_)) ?_
  rw [cast_of inj_spec_mSize (c_spec_mSize _), wrap_id (by show _ ≤ w * h; omega) (by show w * h < _; omega), if_neg (by show ¬ decide ((i : Int) < w * h) = true; simp; omega)]
  refine OK.cast inj_map (a := ⟨w, h, l, [], []⟩) (gvV (by repeat first | exact gvL_nil | refine gvL_cons (by first | exact giveR ok_cI rfl | exact rfl) ?_)) ?_
  refine koA inj_sc_edges (o_sc_edges _ _ (hmb _ _ _) n hc (by unfold Far; omega)) fun v hv => ?_
  rw [gd_eq imm_cI]
  refine OK.cast inj_map (a := ⟨w, h, l, v.1, []⟩) (gvV (by repeat first | exact gvL_nil | refine gvL_cons (by first | exact giveR ok_cI rfl | exact rfl) ?_)) ?_
  refine koA inj_sc_edges (o_sc_edges _ _ (hmb _ _ _) (n + 40) hv.2 (by unfold Far; omega)) fun u hu => ?_
  rw [gd_eq imm_cI]
  refine OK.some ⟨(⟨w, h, l, v.1, u.1⟩, u.2), rfl, ⟨hw, hh, ?_, ?_, ?_⟩, hu.2.to⟩
  ·show (l.length : Int) = w * h; omega
  ·show v.1.length ≤ 20; omega
  ·show u.1.length ≤ 20; omega
 | succ k ih =>
  intro i l c n hi hl hc hn
  unfold Far at hn
  refine okA (e_sc_mapOf_L3 _ _ _ _ _ _ _ _) ?_
  have hwi : IntKind.wrap .i64 ((i : Int) + 1) = ((i + 1 : Nat) : Int) := by rw [wrap_id (by omega) (by omega)]; rfl
  refine OK.cast inj_map (a := ⟨w, h, l, [], []⟩) (gvV (by repeat first | exact gvL_nil | refine gvL_cons (by first | exact giveR ok_cI rfl | exact rfl) ?_)) ?_
  rw [cast_of inj_spec_mSize (c_spec_mSize _), wrap_id (by show _ ≤ w * h; omega) (by show w * h < _; omega), if_pos (by show decide ((i : Int) < w * h) = true; simp; omega), hwi]
  refine koA inj_sc_one (o_sc_one _ _ n hc (by unfold Far; omega)) fun v hv => ?_
  refine OK.ite (fun _ => ?_) (fun _ => ?_)
  ·refine koA inj_sc_pick (o_sc_pick _ _ (n + 2) hv (by unfold Far; omega)) fun u hu => ?_
   rw [apR_eq rt_cI (l := l) (xs := [u.1]) rfl (Src.row (n := 1) ok_cI rfl rfl) rfl rfl (by simp; omega) (by simp; omega) rfl]
   obtain ⟨r, h1, h2⟩ := ih (i + 1) (l ++ [u.1]) u.2 (n + 4) (by omega) (by simp; omega) hu.2.2.to (by unfold Far; omega)
   exact ⟨_, h1, r, rfl, h2.1, h2.2.to⟩
  ·rw [apR_eq rt_cI (l := l) (xs := [0]) rfl (Src.row (n := 1) ok_cI rfl rfl) rfl rfl (by simp; omega) (by simp; omega) rfl]
   obtain ⟨r, h1, h2⟩ := ih (i + 1) (l ++ [0]) v.2 (n + 4) (by omega) (by simp; omega) hv.to (by unfold Far; omega)
   exact ⟨_, h1, r, rfl, h2.1, h2.2.to⟩
theorem o_sc_mapOf (c : Dl1Cur) (t : Int) (n : Int) (hc : Cu c n) (hn : n ≤ Far - 20000) : ∃ v, A_sc_mapOf c t = some (en_sc_mapOf v) ∧ (MapD v.1 ∧ Cu v.2 (n + 300)) := by
 refine okA (e_sc_mapOf _ _) ?_
 unfold Far at hn
 refine koA inj_sc_pick (o_sc_pick _ _ n hc (by unfold Far; omega)) fun v hv => ?_
 refine koA inj_sc_pick (o_sc_pick _ _ (n + 2) hv.2.2 (by unfold Far; omega)) fun u hu => ?_
 rw [wrap_id (n := 1 + v.1) (by omega) (by omega), wrap_id (n := 1 + u.1) (by omega) (by omega)]
 have hs := sz36 (w := 1 + v.1) (h := 1 + u.1) (by omega) (by omega)
 obtain ⟨r, h1, h2⟩ := l_sc_mapOf_L3 0 0 (1 + v.1) (1 + u.1) t (by omega) (by omega) ((1 + v.1) * (1 + u.1)).toNat 0 [] u.2 (n + 4) (by omega) rfl hu.2.2.to (by unfold Far; omega)
 exact ⟨_, h1, r, rfl, h2.1, h2.2.to⟩
theorem stF {α γ : Type} {G : Cfg} {c : α → List AV} {e : Nat} (hc : COk c e) {σ : Store} {id : Id} {fr nest : Bool} {l : List α} (hb : σ.get? id = some (rowB fr nest e c l)) {ty : TypeId} (hn : szT G.P ty = some 1) {j : Nat} {y : α} (hj : l[j]? = some y) {f off : Nat} (ho : off = j * e + f) (hf : f < e)
  {v : Value} (hv : (AV.sc v).flat = true) {y' : α} (hp : putAt (c y) f [.sc v] = c y') (k : List α → Option γ) : stA G c σ id (rowB fr nest e c l) ty (.ptr id none off) (.sc v) k = k (l.set j y') := by
 have hjl := (List.getElem?_eq_some_iff.1 hj).1
 refine stA_eq hc hb rfl rfl hn (show AV.cellOk (.sc v) = true from hv) (fun y hy => ?_) rfl ?_ ?_ (by omega) k
 ·simp only [AV.cells, List.mem_singleton] at hy
  subst hy
  exact ⟨hv, by simp⟩
 ·rw [ho]
  have : (j + 1) * e ≤ l.length * e := Nat.mul_le_mul_right _ hjl
  rw [Nat.add_mul] at this
  omega
 ·rw [ho]
  exact putAt_elem hc.len hj (by simp only [AV.cells, List.length_cons, List.length_nil]; omega) hp
theorem bsA_one {α γ : Type} {G : Cfg} {inl : Bool} {c : α → List AV} {s : Nat} (hc : COk c s) (hs : 0 < s) (hs2 : s ≤ 16777216) {σ : Store} {t : Nat} {ty : TypeId} (hT : ∃ et z, slT G.P ty = some et ∧ szT G.P et = some s ∧ zeroT G.P et = some z ∧ z.length = s) {x : AV} (hx : x.cellOk = true) (hl : x.cells.length = s) {ids : List Id} {a : α}
  (hh : handAll inl σ x.cells = some (c a, delAll σ ids, ids)) (hid : (inl && !ids.isEmpty) = inl) (ht : (delAll σ ids).has (.v t) = false) (k : List α → Option γ) : bsA G inl c s σ t ty 1 [(0, x)] ids k = k [a] := by
 obtain ⟨et, z, h1, h2, h3, h4⟩ := hT
 unfold bsA
 refine cast_of (fun l m he => ?_) ?_ k
 ·injection he with _ h6
  have h8 : (((delAll σ ids).put (.v t) (rowB true inl s c l)).get? (.v t)) = (((delAll σ ids).put (.v t) (rowB true inl s c m)).get? (.v t)) := by rw [h6]
  rw [get_put_same, get_put_same] at h8
  injection h8 with h8
  exact (rowB_eq hc hs).1 h8
 ·unfold evBuildSlice
  simp only [h1, h2, h3]
  rw [if_pos ⟨by omega, h4⟩]
  have hr : repl 1 z = z := by simp [repl]
  have hf : fillA (fun i => some (i * s, s)) z [(0, x)] = some x.cells := by
   simp only [fillA, Nat.zero_mul, Nat.zero_add]
   rw [if_pos ⟨hx, hl, by omega⟩]
   unfold putAt
   simp [hl, h4]
  rw [hr, hf]
  simp only [hh, ht, if_true]
  rw [hid]
  simp [rowB]
theorem apX_eq {α γ : Type} {G : Cfg} {c : α → List AV} {e by_ : Nat} (hc : COk c e) (he0 : 0 < e) {ty : TypeId} (hT : ∃ et z, slT G.P ty = some et ∧ szT G.P et = some e ∧ byT G.P et = some by_ ∧ zeroT G.P et = some z ∧ z.length = e) {σ : Store} {t : Nat} {id sid : Id} {ns : Bool} {l xs : List α}
  (hb : σ.get? id = some (rowB true true e c l)) (hs : σ.get? sid = some (rowB true ns e c xs)) (hne : id ≠ sid) (hx : (xs.flatMap c).any isNst = true) (ht : σ.has (.v t) = false) (hsz : (l.length + xs.length) * by_ ≤ 140737488355328) (hsz2 : l.length + xs.length ≤ 9223372036854775807)
  {n m : Nat} (hn : n = l.length) (hm : m = xs.length) (k : List α → Option γ) : apX G c true e σ t id ty (.own id none 0 n n) (.own sid none 0 m m) k = k (l ++ xs) := by
 obtain ⟨et, z, h1, h2, h3, h4, h5⟩ := hT
 subst hn hm
 have hst : sid ≠ .v t := fun he => by have := has_of_get hs; rw [he, ht] at this; cases this
 have hit : id ≠ .v t := fun he => by have := has_of_get hb; rw [he, ht] at this; cases this
 unfold apX
 refine cast_of (fun a b he => ?_) ?_ k
 ·injection he with _ h6
  have h8 : ((((delAll σ [sid]).del id).put (.v t) (rowB true true e c a)).get? (.v t)) = ((((delAll σ [sid]).del id).put (.v t) (rowB true true e c b)).get? (.v t)) := by
   show (((delAll σ (AV.own sid none 0 xs.length xs.length).refs).del id).put _ _).get? _ = _
   rw [h6]; rfl
  rw [get_put_same, get_put_same] at h8
  injection h8 with h8
  exact (rowB_eq hc he0).1 h8
 ·have hlx := flat_len hc.len xs
  have hll := flat_len hc.len l
  have hel : elems σ e (.own sid none 0 xs.length xs.length) = some (xs.length, xs.flatMap c, [sid]) := by
   simp only [elems, rowOf, hs, rowB, if_true]
   unfold takeAt
   rw [if_pos (by rw [hlx]; omega)]
   simp only [List.drop_zero, Option.map_some]
   rw [List.take_of_length_le (by rw [hlx]; exact Nat.le_refl _)]
  unfold evAppend
  rw [h1, Option.bind_some, h2, Option.bind_some, h3, Option.bind_some, h4, Option.bind_some, if_pos h5, hel, Option.bind_some]
  have hsrc : appendSrc σ (xs.flatMap c) (.own sid none 0 xs.length xs.length) = some (σ.del sid) := by
   unfold appendSrc
   simp [hx, hs, rowB]
  simp only [hsrc, Option.bind_some, hx, if_true]
  have hb1 : (σ.del sid).get? id = some (rowB true true e c l) := by rw [get_del_ne _ hne]; exact hb
  have hr : rowOf (σ.del sid) id none = some (l.flatMap c, e) := by simp only [rowOf, hb1, rowB, if_true]
  unfold evAppend1 appendTo
  simp only [hr, hb1]
  have hct : ([sid] : List Id).contains id = false := by simp [hne]
  rw [if_pos ⟨trivial, hct⟩, if_neg (by simp), if_pos ⟨by rw [hll]; omega, Nat.le_refl _, trivial⟩]
  unfold appendNew
  have htk : ((l.flatMap c).drop 0).take (l.length * e) = l.flatMap c := by rw [List.drop_zero, List.take_of_length_le (by rw [hll]; exact Nat.le_refl _)]
  rw [htk, if_pos ⟨hsz, hsz2, fun _ => rfl, by rw [has_del, has_del]; exact ht⟩]
  simp [rowB, delAll, AV.refs]
theorem haC {inl : Bool} {σ σ1 σ2 : Store} {x y : AV} {r s : List AV} {i1 i2 : List Id} (h : handIn inl σ x = some (y, σ1, i1)) (t : handAll inl σ1 r = some (s, σ2, i2)) {ids : List Id} (he : i1 ++ i2 = ids) : handAll inl σ (x :: r) = some (y :: s, σ2, ids) := by
 subst he
 simp only [handAll, h, t]
theorem haO {α : Type} {c : α → List AV} {e : Nat} (hc : COk c e) {σ : Store} {id : Id} {l : List α} (hb : σ.get? id = some (rowB true false e c l)) : handIn true σ (.own id none 0 l.length l.length) = some (.nst e l.length (l.flatMap c), σ.del id, [id]) := by
 simp only [handIn, hb, rowB]
 rw [if_pos ⟨trivial, trivial, trivial, flat_len hc.len l, Nat.le_refl _⟩]
 simp
theorem frz_terrain (l : List DTerrain) : (l.flatMap cTerrainN).map frz = l.flatMap cTerrain := by
 induction l with
 | nil => rfl
 | cons a r ih =>
  rw [List.flatMap_cons, List.map_append, ih, List.flatMap_cons]
  rfl
theorem giveT {σ : Store} {id : Id} {fr : Bool} {l : List DTerrain} {n cap : Nat} (hn : n ≤ l.length) (hb : σ.get? id = some (rowB fr true 5 cTerrainN l)) : giveUp σ (.own id none 0 n cap) = some (slc cTerrain (l.take n)) := by
 simp only [giveUp, rowOf, hb, rowB, if_true]
 unfold takeAt
 rw [if_pos (by rw [flat_len ok_cTerrainN.len, Nat.zero_add]; exact Nat.mul_le_mul_right _ hn)]
 simp only [List.drop_zero, Option.map_some, Option.isNone_none, Option.getD_some, and_self, if_true]
 rw [flat_take ok_cTerrainN.len, frz_terrain]
 unfold slc
 rw [List.length_take, Nat.min_eq_left hn]
structure RulesD (r : DRules) : Prop where
 t0 : 1 ≤ r.Terrains.length
 t1 : r.Terrains.length ≤ 10
 k0 : 1 ≤ r.Kinds.length
 k1 : r.Kinds.length ≤ 10
 c : ∀ t ∈ r.Terrains, t.Cost.length = r.Kinds.length ∧ t.Name.size ≤ 100
 n : ∀ k ∈ r.Kinds, k.Name.size ≤ 100
def names5 : List ByteArray := [{ data := #[112, 108, 97, 105, 110] }, { data := #[119, 111, 111, 100] }, { data := #[104, 105, 108, 108] }, { data := #[115, 101, 97] }, { data := #[116, 111, 119, 110] }]
theorem names5_sz : ∀ n ∈ names5, n.size ≤ 100 := by
 intro n hn
 simp only [names5, List.mem_cons, List.not_mem_nil, or_false] at hn
 rcases hn with rfl | rfl | rfl | rfl | rfl <;> decide
theorem l_sc_rules_L10 (Q : Dl1Cur → R → Prop) (ts : List DTerrain) (ks : List DKind) (a2 a3 a4 a5 a6 st ri ro su tu : Int) (kn kk : Nat) (nm : ByteArray) (sh he : Int) (bl : Bool) (i : Nat) (hi : i ≤ 10) (hts : ts.length ≤ 10) (hkn : kn ≤ 10)
  (n : Int) (hn : n ≤ Far - 1000)
  (out : ∀ c (cost : List Int), Cu c (n + 2 * kn) → cost.length = kn → OK (L_sc_rules_L5 (ts ++ [⟨nm, cost, sh, he, bl⟩]) ks names5 c a2 a3 a4 a5 a6 0 kn kk st ri ro su tu ((i : Int) + 1)) (Q c)) :
  ∀ (m j : Nat) (cost : List Int) (c : Dl1Cur), j + m = kn → cost.length = j → Cu c (n + 2 * j) → OK (L_sc_rules_L10 ts ks names5 cost c a2 a3 a4 a5 a6 0 kn kk st ri ro su tu nm sh he bl i kn j) (fun r => ∃ c, Q c r) := by
 unfold Far at hn
 intro m
 induction m with
 | zero =>
  intro j cost c hj hl hc
  refine OK.le (e_sc_rules_L10 _ _ _ _ _ _ _ _ _ _ _ _ _ _ _ _ _ _ _ _ _ _ _ _ _) ?_
  rw [if_neg (by simp; omega), wrap_id (n := (i : Int) + 1) (by omega) (by omega)]
  rw [bsA_one ok_cTerrainN (by omega) (by omega) (by obtain ⟨et, z, h1, h2, _, h3, h4⟩ := rt_cTerrain.ex; exact ⟨et, z, h1, h2, h3, h4⟩) (a := ⟨nm, cost, sh, he, bl⟩) rfl rfl (by
   show handAll true _ [S nm, .own (.h 7 1) none 0 cost.length cost.length, I sh, I he, B bl] = some ([S nm, .nst 1 cost.length (cost.flatMap cI), I sh, I he, B bl], _, [.h 7 1])
   refine haC (i1 := []) (i2 := [.h 7 1]) rfl ?_ rfl
   refine haC (i1 := [.h 7 1]) (i2 := []) (haO ok_cI rfl) ?_ rfl
   exact haC (i1 := []) (i2 := []) rfl (haC (i1 := []) (i2 := []) rfl (haC (i1 := []) (i2 := []) rfl rfl rfl) rfl) rfl) rfl rfl]
  rw [apX_eq (m := 1) ok_cTerrainN (by omega) rt_cTerrain.ex (l := ts) (xs := [⟨nm, cost, sh, he, bl⟩]) rfl rfl (by simp) (by simp [cTerrainN, isNst]) rfl (by simp; omega) (by simp; omega) rfl rfl]
  exact (out c cost (hc.mono (by omega)) (by omega)).mono fun r hr => ⟨c, hr⟩
 | succ m ih =>
  intro j cost c hj hl hc
  refine OK.le (e_sc_rules_L10 _ _ _ _ _ _ _ _ _ _ _ _ _ _ _ _ _ _ _ _ _ _ _ _ _) ?_
  have hwj : IntKind.wrap .i64 ((j : Int) + 1) = ((j + 1 : Nat) : Int) := by rw [wrap_id (by omega) (by omega)]; rfl
  rw [if_pos (by simp; omega), hwj]
  refine OK.ite (fun _ => ?_) (fun _ => ?_)
  ·refine koA inj_sc_pick (o_sc_pick _ _ _ hc (by unfold Far; omega)) fun v hv => ?_
   rw [apR_eq rt_cI (l := cost) (xs := [v.1]) rfl (Src.row (n := 1) ok_cI rfl rfl) rfl rfl (by simp; omega) (by simp; omega) rfl]
   exact ih (j + 1) _ v.2 (by omega) (by simp; omega) (hv.2.2.mono (by omega))
  ·rw [apR_eq rt_cI (l := cost) (xs := [1]) rfl (Src.row (n := 1) ok_cI rfl rfl) rfl rfl (by simp; omega) (by simp; omega) rfl]
   exact ih (j + 1) _ c (by omega) (by simp; omega) (hc.mono (by omega))
theorem l_sc_rules_L5 (ks : List DKind) (a2 a3 a4 a5 a6 st ri ro su tu : Int) (kn kk : Nat) (hkn : 1 ≤ kn ∧ kn ≤ 3) (hks : ks.length = 3) (hkk : kk = 3) (hkz : ∀ k ∈ ks, k.Name.size ≤ 100) (n0 : Int) (hn : n0 ≤ Far - 100000) :
  ∀ (m i : Nat) (ts : List DTerrain) (c : Dl1Cur), i + m = 5 → ts.length = i → (∀ t ∈ ts, t.Cost.length = kn ∧ t.Name.size ≤ 100) → Cu c (n0 + 100 * i) →
  OK (L_sc_rules_L5 ts ks names5 c a2 a3 a4 a5 a6 0 kn kk st ri ro su tu i) (fun r => ∃ v, r = en_sc_rules v ∧ (RulesD v.1.1 ∧ v.1.1.Kinds.length + v.1.2.length = 3 ∧ Cu v.2 (n0 + 1000)) ∧ (1 ≤ i → True) ∨ (i = 0 ∧ False)) := by
 unfold Far at hn
 have fin : ∀ (i : Nat) (ts : List DTerrain) (c : Dl1Cur), 1 ≤ i → i ≤ 5 → ts.length = i → (∀ t ∈ ts, t.Cost.length = kn ∧ t.Name.size ≤ 100) → Cu c (n0 + 1000) →
   ∃ v, (AV.agg [AV.own (Id.r 0 0) none 0 (List.length ts) (List.length ts), AV.own (Id.r 0 1) none 0 kn kk, I st, I ri, I ro, I su, I tu], [(Id.l 0, some { arr := false, fr := false, nest := false, esz := 0, cells := cl1Cur c }), (Id.r 0 0, some (rowB true true 5 cTerrainN ts)), (Id.r 0 1, some (rowB true false 6 cKind ks))]) = en_sc_rules v ∧ (RulesD v.1.1 ∧ v.1.1.Kinds.length + v.1.2.length = 3 ∧ Cu v.2 (n0 + 1000)) ∧ (1 ≤ i → True) ∨ (i = 0 ∧ False) := by
  intro i ts c h1 h5 hl ht hc
  have hkl : (ks.take kn).length = kn := by rw [List.length_take]; omega
  have hkd : (ks.drop kn).length = 3 - kn := by rw [List.length_drop]; omega
  refine ⟨((⟨ts, ks.take kn, st, ri, ro, su, tu⟩, ks.drop kn), c), .inl ⟨?_, ⟨⟨by show 1 ≤ ts.length; omega, by show ts.length ≤ 10; omega, by show 1 ≤ (ks.take kn).length; omega, by show (ks.take kn).length ≤ 10; omega, fun t htt => ?_, fun k hk => hkz k (List.mem_of_mem_take hk)⟩, by show (ks.take kn).length + (ks.drop kn).length = 3; omega, hc⟩, fun _ => trivial⟩⟩
  ·unfold en_sc_rules
   simp only [hkl, hkd, List.take_append_drop]
   rw [show kn + (3 - kn) = kk by omega]
  ·rw [hkl]; exact ht t htt
 intro m
 induction m with
 | zero =>
  intro i ts c hi hl ht hc
  refine OK.le (e_sc_rules_L5 _ _ _ _ _ _ _ _ _ _ _ _ _ _ _ _ _ _) ?_
  refine koA inj_sc_pick (o_sc_pick _ _ _ hc (by unfold Far; omega)) fun v hv => ?_
  refine OK.ite (fun hd => ?_) (fun hd => ?_)
  ·rw [if_pos (by show ((i : Int) == 5) = true; simp; omega)]
   exact OK.some (fin i ts v.2 (by omega) (by omega) hl ht (hv.2.2.mono (by omega)))
  ·exact OK.some (fin i ts v.2 (by omega) (by omega) hl ht (hv.2.2.mono (by omega)))
 | succ m ih =>
  intro i ts c hi hl ht hc
  refine OK.le (e_sc_rules_L5 _ _ _ _ _ _ _ _ _ _ _ _ _ _ _ _ _ _) ?_
  refine koA inj_sc_pick (o_sc_pick _ _ _ hc (by unfold Far; omega)) fun v hv => ?_
  have hw2 : IntKind.wrap .i64 (2 + v.1) = 2 + v.1 := wrap_id (by omega) (by omega)
  rw [hw2]
  refine OK.ite (fun hd => ?_) (fun hd => ?_)
  ·rw [if_neg (by show ¬ ((i : Int) == 5) = true; simp; omega)]
   have hx : names5[i]? = some (names5[i]'(by show i < 5; omega)) := List.getElem?_eq_getElem _
   rw [oxA_at rt_cS (j := i) rfl (by show i < 5; omega)]
   refine OK.eq (ld_at (E := tS) (l := names5) rfl rfl ok_cS (fun _ => rfl) rfl rfl hx _) ?_
   refine koA inj_sc_pick (o_sc_pick _ _ _ hv.2.2 (by unfold Far; omega)) fun u1 hu1 => ?_
   refine koA inj_sc_pick (o_sc_pick _ _ _ hu1.2.2 (by unfold Far; omega)) fun u2 hu2 => ?_
   refine koA inj_sc_pick (o_sc_pick _ _ _ hu2.2.2 (by unfold Far; omega)) fun u3 hu3 => ?_
   have go : ∀ (bl : Bool) (c' : Dl1Cur), Cu c' (n0 + 100 * i + 2 + 2 + 2 + 2 + 2) → OK (L_sc_rules_L10 ts ks names5 [] c' a2 a3 a4 a5 a6 0 kn kk st ri ro su tu (names5[i]'(by show i < 5; omega)) (IntKind.wrap IntKind.i64 (u1.1 - 1)) (IntKind.wrap IntKind.i64 (u2.1 * u3.1)) bl i kn 0)
     (fun r => ∃ v, r = en_sc_rules v ∧ (RulesD v.1.1 ∧ v.1.1.Kinds.length + v.1.2.length = 3 ∧ Cu v.2 (n0 + 1000)) ∧ (1 ≤ i → True) ∨ (i = 0 ∧ False)) := by
    intro bl c' hc'
    have := l_sc_rules_L10 (fun _ r => ∃ v, r = en_sc_rules v ∧ (RulesD v.1.1 ∧ v.1.1.Kinds.length + v.1.2.length = 3 ∧ Cu v.2 (n0 + 1000)) ∧ (1 ≤ i → True) ∨ (i = 0 ∧ False)) ts ks a2 a3 a4 a5 a6 st ri ro su tu kn kk (names5[i]'(by show i < 5; omega)) (IntKind.wrap IntKind.i64 (u1.1 - 1)) (IntKind.wrap IntKind.i64 (u2.1 * u3.1)) bl i (by omega) (by omega) (by omega) (n0 + 100 * i + 2 + 2 + 2 + 2 + 2) (by unfold Far; omega)
     (fun c2 cost hc2 hcost => by
      have hmono : Cu c2 (n0 + 100 * ((i + 1 : Nat) : Int)) := hc2.mono (by omega)
      have := ih (i + 1) (ts ++ [⟨names5[i]'(by show i < 5; omega), cost, (IntKind.wrap IntKind.i64 (u1.1 - 1)), (IntKind.wrap IntKind.i64 (u2.1 * u3.1)), bl⟩]) c2 (by omega) (by simp; omega) (fun t htt => by
       rcases List.mem_append.1 htt with h | h
       ·exact ht t h
       ·simp only [List.mem_singleton] at h
        subst h
        exact ⟨hcost, names5_sz _ (List.getElem_mem _)⟩) hmono
      rw [show ((i + 1 : Nat) : Int) = (i : Int) + 1 from rfl] at this
      exact this.mono fun r hr => by
       rcases hr with ⟨v, h1 | h1⟩
       ·exact ⟨v, .inl ⟨h1.1, h1.2.1, fun _ => trivial⟩⟩
       ·exact h1.2.elim) kn 0 [] c' (by omega) rfl (hc'.mono (by omega))
    exact this.mono fun r hr => hr.elim fun _ h => h
   refine OK.ite (fun _ => ?_) (fun _ => ?_)
   ·refine koA inj_sc_one (o_sc_one _ _ _ hu3.2.2 (by unfold Far; omega)) fun w hw => ?_
    exact go w.1 w.2 hw
   ·exact go false u3.2 (hu3.2.2.mono (by omega))
  ·have h2 : 1 ≤ i := by
    simp only [decide_eq_true_eq] at hd
    omega
   exact OK.some (fin i ts v.2 h2 (by omega) hl ht (hv.2.2.mono (by omega)))
theorem o_sc_rules (c : Dl1Cur) (n : Int) (hc : Cu c n) (hn : n ≤ Far - 200000) : ∃ v, A_sc_rules c = some (en_sc_rules v) ∧ (RulesD v.1.1 ∧ v.1.1.Kinds.length + v.1.2.length = 3 ∧ Cu v.2 (n + 2000)) := by
 refine okA (e_sc_rules _) ?_
 unfold Far at hn
 refine koA inj_sc_pick (o_sc_pick _ _ n hc (by unfold Far; omega)) fun v1 h1 => ?_
 refine koA inj_sc_pick (o_sc_pick _ _ _ h1.2.2 (by unfold Far; omega)) fun v2 h2 => ?_
 refine koA inj_sc_pick (o_sc_pick _ _ _ h2.2.2 (by unfold Far; omega)) fun v3 h3 => ?_
 refine koA inj_sc_pick (o_sc_pick _ _ _ h3.2.2 (by unfold Far; omega)) fun v4 h4 => ?_
 refine koA inj_sc_pick (o_sc_pick _ _ _ h4.2.2 (by unfold Far; omega)) fun v5 h5 => ?_
 refine koA inj_sc_pick (o_sc_pick _ _ _ h5.2.2 (by unfold Far; omega)) fun v6 h6 => ?_
 refine koA inj_sc_pick (o_sc_pick _ _ _ h6.2.2 (by unfold Far; omega)) fun v7 h7 => ?_
 refine koA inj_sc_one (o_sc_one _ _ _ h7.2.2 (by unfold Far; omega)) fun v8 h8 => ?_
 refine koA inj_sc_pick (o_sc_pick _ _ _ h8 (by unfold Far; omega)) fun v9 h9 => ?_
 refine koA inj_sc_pick (o_sc_pick _ _ _ h9.2.2 (by unfold Far; omega)) fun v10 h10 => ?_
 refine koA inj_sc_pick (o_sc_pick _ _ _ h10.2.2 (by unfold Far; omega)) fun v11 h11 => ?_
 refine koA inj_sc_pick (o_sc_pick _ _ _ h11.2.2 (by unfold Far; omega)) fun v12 h12 => ?_
 have hw : IntKind.wrap .i64 (1 + v12.1) = ((1 + v12.1.toNat : Nat) : Int) := by rw [wrap_id (by omega) (by omega)]; omega
 refine OK.eq (slO_hi rt_cKind (l := [⟨_, _, _, _, _, _⟩, ⟨_, _, _, _, _, _⟩, ⟨_, _, _, _, _, _⟩]) rfl hw (by omega) _) ?_
 refine koA inj_sc_pick (o_sc_pick _ _ _ h12.2.2 (by unfold Far; omega)) fun v13 h13 => ?_
 refine koA inj_sc_pick (o_sc_pick _ _ _ h13.2.2 (by unfold Far; omega)) fun v14 h14 => ?_
 refine koA inj_sc_pick (o_sc_pick _ _ _ h14.2.2 (by unfold Far; omega)) fun v15 h15 => ?_
 refine koA inj_sc_pick (o_sc_pick _ _ _ h15.2.2 (by unfold Far; omega)) fun v16 h16 => ?_
 have key := l_sc_rules_L5 [⟨{ data := #[102, 111, 111, 116] }, IntKind.wrap .i64 (2 + v1.1), IntKind.wrap .i64 (2 + v2.1), IntKind.wrap .i64 (1 + v3.1), true, IntKind.wrap .i64 (1 + v4.1)⟩,
  ⟨{ data := #[104, 111, 114, 115, 101] }, IntKind.wrap .i64 (1 + v5.1), IntKind.wrap .i64 (3 + v6.1), IntKind.wrap .i64 (1 + v7.1), v8.1, 2⟩, ⟨{ data := #[103, 117, 110] }, IntKind.wrap .i64 (3 + v9.1), IntKind.wrap .i64 (1 + v10.1), 1, false, v11.1⟩]
  0 0 0 0 0 (IntKind.wrap .i64 (1 + v13.1)) v14.1 1 (IntKind.wrap .i64 (2 + v15.1)) (IntKind.wrap .i64 (2 + v16.1)) (1 + v12.1.toNat) 3 (by omega) rfl rfl (by
   intro k hk
   simp only [List.mem_cons, List.not_mem_nil, or_false] at hk
   rcases hk with rfl | rfl | rfl <;> exact Nat.le_of_ble_eq_true rfl) (n + 100) (by unfold Far; omega) 5 0 [] v16.2 rfl rfl (by simp) (h16.2.2.mono (by omega))
 exact key.mono fun r hr => by
  rcases hr with ⟨v, h | h⟩
  ·exact ⟨v, h.1, h.2.1.1, h.2.1.2.1, h.2.1.2.2.mono (by omega)⟩
  ·exact h.2.elim
theorem RulesD.rn {r : DRules} (h : RulesD r) : RulesN r := ⟨by have := h.t1; omega, by have := h.k1; omega, fun t ht => ⟨by have := (h.c t ht).2; omega, by have := (h.c t ht).1; have := h.k1; omega⟩, fun k hk => by have := h.n k hk; omega⟩
theorem MapD.mn {m : DMap} (h : MapD m) : MapN m := ⟨by have := h.t; have := sz36 h.w h.h; omega, by have := h.r; omega, by have := h.d; omega⟩
theorem stA_of {α γ : Type} {G : Cfg} {c : α → List AV} {e : Nat} (hc : COk c e) (he : 0 < e) {σ : Store} {id : Id} {b : Blk} {ty : TypeId} {a x : AV} {l : List α} (hs : storeA G σ ty a x = some { val := undefA, σ := σ.put id { b with cells := l.flatMap c }, wr := [id] }) (k : List α → Option γ) :
  stA G c σ id b ty a x k = k l := by
 unfold stA
 refine cast_of (fun p q hpq => ?_) ?_ k
 ·injection hpq with _ h7
  have h8 : ((σ.put id { b with cells := p.flatMap c }).get? id) = ((σ.put id { b with cells := q.flatMap c }).get? id) := by rw [h7]
  rw [get_put_same, get_put_same] at h8
  injection h8 with h8
  injection h8 with _ _ _ _ h9
  refine flat_inj hc _ _ ?_ h9
  have h10 := congrArg List.length h9
  rw [flat_len hc.len, flat_len hc.len] at h10
  exact Nat.eq_of_mul_eq_mul_right he h10
 ·exact hs
theorem flat_set {α : Type} {c : α → List AV} {e : Nat} (hc : ∀ a, (c a).length = e) {l : List α} {j : Nat} {y y' : α} (hj : l[j]? = some y) {f : Nat} (hf : f < e) {v : AV} (hy : (c y).set f v = c y') : (l.flatMap c).set (j * e + f) v = (l.set j y').flatMap c := by
 have hjl := (List.getElem?_eq_some_iff.1 hj).1
 have key : ∀ (xs : List AV) (p : Nat), p < xs.length → putAt xs p [v] = xs.set p v := fun xs p hp => by
  unfold putAt
  rw [List.set_eq_take_append_cons_drop, if_pos hp]
  simp
 rw [← key _ _ (by rw [flat_len hc]; have : (j + 1) * e ≤ l.length * e := Nat.mul_le_mul_right _ hjl; rw [Nat.add_mul] at this; omega)]
 exact putAt_elem hc hj (by simp; omega) (by rw [key _ _ (by rw [hc]; exact hf)]; exact hy)
theorem ldN_at {α γ : Type} {G : Cfg} {c : α → List AV} {e : Nat} (hc : COk c e) {σ : Store} {id : Id} {fr : Bool} {l : List α} (hb : σ.get? id = some (rowB fr true e c l)) {ty : TypeId} (hn : szT G.P ty = some 1) (hg : aggT G.P ty = some false) {j : Nat} {y : α} (hj : l[j]? = some y) {f off : Nat} (ho : off = j * e + f) (hf : f < e)
  {e1 m : Nat} {xs : List AV} (hy : (c y)[f]? = some (.nst e1 m xs)) (k : Nat → Option γ) : ldN G σ ty id off k = k m := by
 unfold ldN
 refine cast_of (fun a b he => ?_) ?_ k
 ·injection he
 ·have hx : (l.flatMap c)[off]? = some (.nst e1 m xs) := by rw [ho]; exact (flat_get hc.len hj hf).trans hy
  have hl := (List.getElem?_eq_some_iff.1 hx).1
  have htk : takeAt (l.flatMap c) off 1 = some [.nst e1 m xs] := by
   unfold takeAt
   rw [if_pos (by omega)]
   congr 1
   obtain ⟨h1, h2⟩ := List.getElem?_eq_some_iff.1 hx
   rw [List.drop_eq_getElem_cons h1, h2]
   rfl
  unfold loadA
  rw [hn, Option.bind_some, hg, Option.bind_some]
  simp only [cellsAt, readAt, hb, rowB, htk, Bool.false_eq_true, if_false, Option.map_some, Bool.and_self, if_true, viewFrom, viewCell, Option.bind_some]
  rfl
theorem stN {α γ : Type} {G : Cfg} {c : α → List AV} {e : Nat} (hc : COk c e) (he : 0 < e) {σ : Store} {id : Id} {fr : Bool} {l : List α} (hb : σ.get? id = some (rowB fr true e c l)) {ty : TypeId} (hn : szT G.P ty = some 1) {j : Nat} {y : α} (hj : l[j]? = some y) {f off : Nat} (ho : off = j * e + f) (hf : f < e)
  {e1 m : Nat} {xs : List AV} (hy : (c y)[f]? = some (.nst e1 m xs)) {o : Nat} (hx : o + 1 ≤ xs.length) {v : Value} (hv : (AV.sc v).flat = true) {y' : α} (hp : (c y).set f (.nst e1 m (putAt xs o [.sc v])) = c y') (k : List α → Option γ) :
  stA G c σ id (rowB fr true e c l) ty (.ptr id (some off) o) (.sc v) k = k (l.set j y') := by
 refine stA_of hc he ?_ k
 have hcell : (l.flatMap c)[off]? = some (.nst e1 m xs) := by rw [ho]; exact (flat_get hc.len hj hf).trans hy
 unfold storeA
 rw [hn, Option.bind_some]
 unfold storeAt
 rw [if_neg (by rw [show AV.cellOk (.sc v) = true from hv]; simp)]
 simp only
 unfold storeRow
 have hr : rowOf σ id (some off) = some (xs, e1) := by simp only [rowOf, hb, rowB, hcell, if_true]
 rw [hr]
 simp only [AV.cells]
 refine (if_pos (show [AV.sc v].length = 1 ∧ o + 1 ≤ xs.length ∧ [AV.sc v].all AV.flat = true from ⟨rfl, hx, by simpa using hv⟩)).trans ?_
 unfold setRow
 simp only [hb, rowB, hcell, Option.map_some]
 rw [ho, flat_set hc.len hj hf hp]
theorem mem_settake {α : Type} {P : α → Prop} {l : List α} {j n : Nat} {y : α} (h : ∀ t ∈ l, P t) (hy : P y) : ∀ t ∈ (l.set j y).take n, P t := by
 intro t ht
 rcases List.mem_or_eq_of_mem_set (List.mem_of_mem_take ht) with h1 | h1
 ·exact h t h1
 ·rw [h1]; exact hy
theorem mem_take' {α : Type} {P : α → Prop} {l : List α} {n : Nat} (h : ∀ t ∈ l, P t) : ∀ t ∈ l.take n, P t := fun t ht => h t (List.mem_of_mem_take ht)
theorem cTerrainN_cost (t : DTerrain) : (cTerrainN t)[1]? = some (.nst 1 t.Cost.length (t.Cost.flatMap cI)) := rfl
theorem o_sc_anyRules (c : Dl1Cur) (n : Int) (hc : Cu c n) (hn : n ≤ Far - 300000) : ∃ v, A_sc_anyRules c = some (en_sc_anyRules v) ∧ (RulesN v.1 ∧ Cu v.2 (n + 3000)) := by
 refine okA (e_sc_anyRules _) ?_
 unfold Far at hn
 refine koA inj_sc_rules (o_sc_rules _ _ hc (by unfold Far; omega)) fun r hr => ?_
 obtain ⟨⟨r, sp⟩, c1⟩ := r
 obtain ⟨hd, hsp, hc1⟩ := hr
 simp only at hd hsp hc1
 dsimp only
 have hrn := hd.rn
 have ht0 := hd.t0; have ht1 := hd.t1; have hk0 := hd.k0; have hk1 := hd.k1
 refine koA inj_sc_pick (o_sc_pick _ _ _ hc1 (by unfold Far; omega)) fun p hp => ?_
 have hc2 := hp.2.2
 obtain ⟨t, ht⟩ : ∃ t, r.Terrains[0]? = some t := ⟨_, List.getElem?_eq_getElem (by omega)⟩
 have htm := mem_of_get ht
 have hcost := (hd.c t htm).1
 obtain ⟨kd, hkd⟩ : ∃ t, r.Kinds[0]? = some t := ⟨_, List.getElem?_eq_getElem (by omega)⟩
 have hkd2 : (r.Kinds ++ sp)[0]? = some kd := by rw [List.getElem?_append_left (by omega)]; exact hkd
 have hkn : ∀ k ∈ r.Kinds ++ sp, k ∈ r.Kinds ∨ k ∈ sp := fun k hk => List.mem_append.1 hk
 have hkt : (r.Kinds ++ sp).take r.Kinds.length = r.Kinds := by simp
 have give : ∀ (σ : Store) (T : List DTerrain) (K : List DKind) (n1 n2 m2 : Nat) (a b c d e : Int) (id1 id2 : Id) (f1 f2 : Bool), n1 ≤ T.length → n2 ≤ K.length → σ.get? id1 = some (rowB f1 true 5 cTerrainN T) → σ.get? id2 = some (rowB f2 false 6 cKind K) →
   giveUpT σ (.agg [.own id1 none 0 n1 n1, .own id2 none 0 n2 m2, I a, I b, I c, I d, I e]) = some (.agg (cRules ⟨T.take n1, K.take n2, a, b, c, d, e⟩)) := fun σ T K n1 n2 m2 a b c d e id1 id2 f1 f2 h1 h2 g1 g2 =>
  gvT (gvL_cons (giveT h1 g1) (gvL_cons (giveN ok_cKind h2 g2) rfl))
 refine OK.ite (fun _ => ?_) (fun _ => ?_)
 ·rw [oxA_at rt_cTerrain (i := 0) (j := 0) rfl (by omega)]
  rw [ldN_at ok_cTerrainN rfl rfl rfl ht rfl (by omega) (cTerrainN_cost t)]
  refine OK.cast (slc_inj ok_cI) (a := [-1, 9, 10, 0]) rfl ?_
  refine koA inj_sc_among (o_sc_among _ _ _ hc2 (by unfold Far; omega) (by simp)) fun q hq => ?_
  rw [oxA_at rt_cI (i := 0) (j := 0) rfl (by omega)]
  rw [stN ok_cTerrainN (by omega) rfl rfl ht rfl (by omega) (cTerrainN_cost t) (by rw [flat_len ok_cI.len]; omega) rfl (y' := { t with Cost := t.Cost.set 0 q.1 }) (by
   rw [show (0 * 1 : Nat) = 0 * 1 + 0 from rfl, putAt_elem ok_cI.len (l := t.Cost) (j := 0) (y := t.Cost[0]'(by omega)) (y' := q.1) (List.getElem?_eq_getElem _) (by simp) rfl]
   simp [cTerrainN])]
  refine OK.cast inj_rules (give _ _ _ _ _ _ _ _ _ _ _ _ _ _ _ (by simp) (by simp) rfl rfl) ?_
  refine OK.some ⟨(_, _), rfl, ⟨?_, ?_, ?_, ?_⟩, hq.2.to⟩
  ·show (List.take _ _).length < _; rw [List.length_take]; simp; omega
  ·show (List.take _ _).length < _; rw [List.length_take]; simp; omega
  ·exact mem_settake hrn.tn ⟨(hrn.tn t htm).1, by show (List.set _ _ _).length < _; rw [List.length_set]; exact (hrn.tn t htm).2⟩
  ·show ∀ k ∈ (r.Kinds ++ sp).take r.Kinds.length, _
   rw [hkt]; exact hrn.kn
 refine OK.ite (fun _ => ?_) (fun _ => ?_)
 ·refine OK.cast (slc_inj ok_cS) (a := [_, _, _, _, _]) rfl ?_
  refine koA inj_sc_of (o_sc_of _ _ _ hc2 (by unfold Far; omega) (by simp)) fun q hq => ?_
  have hqs : q.1.size < 1000000000000 := by
   have := hq.1
   simp only [List.mem_cons, List.not_mem_nil, or_false] at this
   rcases this with h | h | h | h | h <;> rw [h] <;> exact Nat.lt_of_le_of_lt (m := 100) (Nat.le_of_ble_eq_true rfl) (by omega)
  rw [oxA_at rt_cTerrain (i := 0) (j := 0) rfl (by omega)]
  rw [stF ok_cTerrainN rfl rfl ht rfl (by omega) rfl (y' := { t with Name := q.1 }) rfl]
  refine OK.cast inj_rules (give _ _ _ _ _ _ _ _ _ _ _ _ _ _ _ (by simp) (by simp) rfl rfl) ?_
  refine OK.some ⟨(_, _), rfl, ⟨?_, ?_, ?_, ?_⟩, hq.2.to⟩
  ·show (List.take _ _).length < _; rw [List.length_take]; simp; omega
  ·show (List.take _ _).length < _; rw [List.length_take]; simp; omega
  ·exact mem_settake hrn.tn ⟨hqs, (hrn.tn t htm).2⟩
  ·show ∀ k ∈ (r.Kinds ++ sp).take r.Kinds.length, _
   rw [hkt]; exact hrn.kn
 refine OK.ite (fun _ => ?_) (fun _ => ?_)
 ·refine OK.cast (slc_inj ok_cI) (a := [-1, 0, 9, 10]) rfl ?_
  refine koA inj_sc_among (o_sc_among _ _ _ hc2 (by unfold Far; omega) (by simp)) fun q hq => ?_
  rw [oxA_at rt_cKind (i := 0) (j := 0) rfl (by omega)]
  rw [stF ok_cKind rfl rfl hkd2 rfl (by omega) rfl (y' := { kd with Moves := q.1 }) rfl]
  refine OK.cast inj_rules (give _ _ _ _ _ _ _ _ _ _ _ _ _ _ _ (by simp) (by simp) rfl rfl) ?_
  refine OK.some ⟨(_, _), rfl, ⟨?_, ?_, ?_, ?_⟩, hq.2.to⟩
  ·show (List.take _ _).length < _; rw [List.length_take]; simp; omega
  ·show (List.take _ _).length < _; rw [List.length_take]; simp; omega
  ·exact mem_take' hrn.tn
  ·show ∀ k ∈ ((r.Kinds ++ sp).set 0 _).take r.Kinds.length, _
   rw [← List.take_append_drop r.Kinds.length ((r.Kinds ++ sp).set 0 { kd with Moves := q.1 })] at *
   intro k hk
   have hk2 := List.mem_of_mem_take hk
   have : ((r.Kinds ++ sp).set 0 { kd with Moves := q.1 }) = r.Kinds.set 0 { kd with Moves := q.1 } ++ sp := by rw [List.set_append_left _ _ (by omega)]
   rw [List.take_append_drop, this, List.take_append_of_le_length (by simp)] at hk
   exact mem_settake (P := fun k : DKind => k.Name.size < 1000000000000) (y := { kd with Moves := q.1 }) (j := 0) (n := r.Kinds.length) hrn.kn (hrn.kn kd (mem_of_get hkd)) k (by simpa using hk)
 refine OK.ite (fun _ => ?_) (fun _ => ?_)
 ·rw [oxA_at rt_cKind (i := 0) (j := 0) rfl (by omega)]
  refine OK.eq (ld_at (E := tKind) rfl rfl ok_cKind (fun h => by cases h) (l := r.Kinds ++ sp) rfl rfl hkd2 _) ?_
  rw [apR_take rt_cKind (l := r.Kinds ++ sp) (xs := [kd]) rfl (Src.row (n := 1) ok_cKind rfl rfl) rfl rfl (n := r.Kinds.length) (by simp) (by omega) (by simp; omega) (by simp; omega), hkt]
  refine OK.cast inj_rules (give _ _ _ _ _ _ _ _ _ _ _ _ _ _ _ (by simp) (by simp) rfl rfl) ?_
  refine OK.some ⟨(_, _), rfl, ⟨?_, ?_, ?_, ?_⟩, hc2.to⟩
  ·show (List.take _ _).length < _; rw [List.length_take]; simp; omega
  ·show (List.take _ _).length < _; rw [List.length_take]; simp; omega
  ·exact mem_take' hrn.tn
  ·refine mem_take' fun k hk => ?_
   rcases List.mem_append.1 hk with h | h
   ·exact hrn.kn k h
   ·simp only [List.mem_singleton] at h; subst h; exact hrn.kn _ (mem_of_get hkd)
 have plain : ∀ (a b c d e : Int) (c' : Dl1Cur), Cu c' (n + 3000) → ∃ v, (AV.agg (cRules ⟨r.Terrains.take r.Terrains.length, (r.Kinds ++ sp).take r.Kinds.length, a, b, c, d, e⟩), [(Id.l 0, some { arr := false, fr := false, nest := false, esz := 0, cells := cl1Cur c' })]) = en_sc_anyRules v ∧ (RulesN v.1 ∧ Cu v.2 (n + 3000)) := by
  intro a b c d e c' hc'
  refine ⟨(_, c'), rfl, ⟨?_, ?_, ?_, ?_⟩, hc'⟩
  ·show (List.take _ _).length < _; rw [List.length_take]; simp; omega
  ·show (List.take _ _).length < _; rw [List.length_take]; simp; omega
  ·exact mem_take' hrn.tn
  ·show ∀ k ∈ (r.Kinds ++ sp).take r.Kinds.length, _
   rw [hkt]; exact hrn.kn
 refine OK.ite (fun _ => ?_) (fun _ => ?_)
 ·refine OK.cast (slc_inj ok_cI) (a := [0, 4, 5]) rfl ?_
  refine koA inj_sc_among (o_sc_among _ _ _ hc2 (by unfold Far; omega) (by simp)) fun q hq => ?_
  refine OK.cast inj_rules (give _ _ _ _ _ _ _ _ _ _ _ _ _ _ _ (by simp) (by simp) rfl rfl) ?_
  exact OK.some (plain _ _ _ _ _ _ hq.2.to)
 refine OK.ite (fun _ => ?_) (fun _ => ?_)
 ·refine OK.cast (slc_inj ok_cI) (a := [0, 30, 31]) rfl ?_
  refine koA inj_sc_among (o_sc_among _ _ _ hc2 (by unfold Far; omega) (by simp)) fun q hq => ?_
  refine OK.cast inj_rules (give _ _ _ _ _ _ _ _ _ _ _ _ _ _ _ (by simp) (by simp) rfl rfl) ?_
  exact OK.some (plain _ _ _ _ _ _ hq.2.to)
 refine OK.ite (fun _ => ?_) (fun _ => ?_)
 ·refine OK.cast (slc_inj ok_cI) (a := [-4, -3, 4]) rfl ?_
  refine koA inj_sc_among (o_sc_among _ _ _ hc2 (by unfold Far; omega) (by simp)) fun q hq => ?_
  rw [oxA_at rt_cTerrain (i := 0) (j := 0) rfl (by omega)]
  rw [stF ok_cTerrainN rfl rfl ht rfl (by omega) rfl (y' := { t with Shift := q.1 }) rfl]
  refine OK.cast inj_rules (give _ _ _ _ _ _ _ _ _ _ _ _ _ _ _ (by simp) (by simp) rfl rfl) ?_
  refine OK.some ⟨(_, _), rfl, ⟨?_, ?_, ?_, ?_⟩, hq.2.to⟩
  ·show (List.take _ _).length < _; rw [List.length_take]; simp; omega
  ·show (List.take _ _).length < _; rw [List.length_take]; simp; omega
  ·exact mem_settake hrn.tn (hrn.tn t htm)
  ·show ∀ k ∈ (r.Kinds ++ sp).take r.Kinds.length, _
   rw [hkt]; exact hrn.kn
 ·refine OK.cast inj_rules (give _ _ _ _ _ _ _ _ _ _ _ _ _ _ _ (by simp) (by simp) rfl rfl) ?_
  exact OK.some (plain _ _ _ _ _ _ hc2.to)
theorem gvMap {σ : Store} {w h : Int} {t r d : List Int} {i1 i2 i3 : Id} {f1 f2 f3 : Bool} {n1 n2 n3 : Nat} (h1 : n1 ≤ t.length) (h2 : n2 ≤ r.length) (h3 : n3 ≤ d.length) (g1 : σ.get? i1 = some (rowB f1 false 1 cI t)) (g2 : σ.get? i2 = some (rowB f2 false 1 cI r)) (g3 : σ.get? i3 = some (rowB f3 false 1 cI d)) :
  giveUpV σ (.agg [I w, I h, .own i1 none 0 n1 n1, .own i2 none 0 n2 n2, .own i3 none 0 n3 n3]) = some (.agg (cMap ⟨w, h, t.take n1, r.take n2, d.take n3⟩)) :=
 gvV (gvL_cons rfl (gvL_cons rfl (gvL_cons (giveN ok_cI h1 g1) (gvL_cons (giveN ok_cI h2 g2) (gvL_cons (giveN ok_cI h3 g3) rfl)))))
theorem gvState {σ : Store} {t w : Int} {us : List DUnit} {i : Id} {f : Bool} {n m : Nat} (h : n ≤ us.length) (g : σ.get? i = some (rowB f false 4 cUnit us)) : giveUpV σ (.agg [I t, I w, .own i none 0 n m]) = some (.agg (cState ⟨t, w, us.take n⟩)) :=
 gvV (gvL_cons rfl (gvL_cons rfl (gvL_cons (giveN ok_cUnit h g) rfl)))
theorem o_sc_anyMap (c : Dl1Cur) (n : Int) (hc : Cu c n) (hn : n ≤ Far - 300000) : ∃ v, A_sc_anyMap c = some (en_sc_anyMap v) ∧ ((MapN v.1 ∧ v.1.Terrain.length ≤ 40 ∧ v.1.Rivers.length ≤ 40 ∧ v.1.Roads.length ≤ 40) ∧ Cu v.2 (n + 1000)) := by
 refine okA (e_sc_anyMap _) ?_
 unfold Far at hn
 refine koA inj_sc_mapOf (o_sc_mapOf _ _ _ hc (by unfold Far; omega)) fun r hr => ?_
 obtain ⟨m, c1⟩ := r
 obtain ⟨hd, hc1⟩ := hr
 simp only at hd hc1
 dsimp only
 have hr0 := hd.r; have hd0 := hd.d
 have ht0 : 1 ≤ m.Terrain.length ∧ m.Terrain.length ≤ 36 := by have := hd.t; have := sz36 hd.w hd.h; omega
 refine koA inj_sc_pick (o_sc_pick _ _ _ hc1 (by unfold Far; omega)) fun p hp => ?_
 have hc2 := hp.2.2
 have fin : ∀ (m : DMap) (c' : Dl1Cur), m.Terrain.length ≤ 40 → m.Rivers.length ≤ 40 → m.Roads.length ≤ 40 → Cu c' (n + 1000) → ∃ v, (AV.agg (cMap m), [(Id.l 0, some { arr := false, fr := false, nest := false, esz := 0, cells := cl1Cur c' })]) = en_sc_anyMap v ∧ ((MapN v.1 ∧ v.1.Terrain.length ≤ 40 ∧ v.1.Rivers.length ≤ 40 ∧ v.1.Roads.length ≤ 40) ∧ Cu v.2 (n + 1000)) :=
  fun m c' a b d hc' => ⟨(m, c'), rfl, ⟨⟨by show m.Terrain.length < _; omega, by show m.Rivers.length < _; omega, by show m.Roads.length < _; omega⟩, a, b, d⟩, hc'⟩
 have lt : ∀ (l : List Int) (k b : Nat), l.length ≤ b → (l.take k).length ≤ b := fun l k b h => by rw [List.length_take]; omega
 refine OK.ite (fun _ => ?_) (fun _ => ?_)
 ·refine OK.cast (slc_inj ok_cI) (a := [0, 10, 11, _]) rfl ?_
  refine koA inj_sc_among (o_sc_among _ _ _ hc2 (by unfold Far; omega) (by simp)) fun q hq => ?_
  refine OK.cast inj_map (gvMap (Nat.le_refl _) (Nat.le_refl _) (Nat.le_refl _) rfl rfl rfl) ?_
  exact OK.some (fin _ _ (lt _ _ _ (by omega)) (lt _ _ _ (by omega)) (lt _ _ _ (by omega)) hq.2.to)
 refine OK.ite (fun _ => ?_) (fun _ => ?_)
 ·refine OK.cast (slc_inj ok_cI) (a := [-1, 6]) rfl ?_
  refine koA inj_sc_among (o_sc_among _ _ _ hc2 (by unfold Far; omega) (by simp)) fun q hq => ?_
  rw [oxA_at rt_cI (i := 0) (j := 0) rfl (by omega)]
  have hx : m.Terrain[0]? = some (m.Terrain[0]'(by omega)) := List.getElem?_eq_getElem _
  rw [stF (f := 0) ok_cI rfl rfl hx rfl (by omega) rfl (y' := q.1) rfl]
  refine OK.cast inj_map (gvMap (by simp) (Nat.le_refl _) (Nat.le_refl _) rfl rfl rfl) ?_
  exact OK.some (fin _ _ (lt _ _ _ (by simp; omega)) (lt _ _ _ (by omega)) (lt _ _ _ (by omega)) hq.2.to)
 refine OK.ite (fun _ => ?_) (fun _ => ?_)
 ·refine OK.cast inj_map (gvMap (Nat.le_refl _) (Nat.le_refl _) (Nat.le_refl _) rfl rfl rfl) ?_
  rw [cast_of inj_spec_mSize (c_spec_mSize _)]
  refine OK.cast inj_map (gvMap (Nat.le_refl _) (Nat.le_refl _) (Nat.le_refl _) rfl rfl rfl) ?_
  rw [cast_of inj_spec_mSize (c_spec_mSize _)]
  refine OK.cast (slc_inj ok_cI) (a := [0, _, _, -1]) rfl ?_
  refine koA inj_sc_among (o_sc_among _ _ _ hc2 (by unfold Far; omega) (by simp)) fun q hq => ?_
  rw [apR_eq rt_cI (l := m.Rivers) (xs := [q.1]) rfl (Src.row (n := 1) ok_cI rfl rfl) rfl rfl (by simp; omega) (by simp; omega) rfl]
  refine OK.cast inj_map (gvMap (Nat.le_refl _) (Nat.le_refl _) (Nat.le_refl _) rfl rfl rfl) ?_
  exact OK.some (fin _ _ (lt _ _ _ (by omega)) (lt _ _ _ (by simp; omega)) (lt _ _ _ (by omega)) hq.2.to)
 refine OK.ite (fun _ => ?_) (fun _ => ?_)
 ·rw [apR_eq rt_cI (l := [2]) (n := 1) (xs := m.Roads) rfl (Src.row ok_cI rfl rfl) rfl rfl (by simp; omega) (by simp; omega) rfl]
  refine OK.cast inj_map (gvMap (Nat.le_refl _) (Nat.le_refl _) (Nat.le_refl _) rfl rfl rfl) ?_
  exact OK.some (fin _ _ (lt _ _ _ (by omega)) (lt _ _ _ (by omega)) (lt _ _ _ (by simp; omega)) hc2.to)
 ·refine OK.cast inj_map (gvMap (Nat.le_refl _) (Nat.le_refl _) (Nat.le_refl _) rfl rfl rfl) ?_
  exact OK.some (fin _ _ (lt _ _ _ (by omega)) (lt _ _ _ (by omega)) (lt _ _ _ (by omega)) hc2.to)
theorem o2_sc_board (c : Dl1Cur) (n : Int) (hc : Cu c n) (hn : n ≤ Far - 400000) : ∃ v, A_sc_board c = some (en_sc_board v) ∧ ((BoardN v.1 ∧ 0 < v.1.Rules.Kinds.length) ∧ Cu v.2 (n + 3000)) := by
 refine okA (e_sc_board _) ?_
 unfold Far at hn
 refine koA inj_sc_rules (o_sc_rules _ _ hc (by unfold Far; omega)) fun r hr => ?_
 obtain ⟨⟨r, sp⟩, c1⟩ := r
 obtain ⟨hd, hsp, hc1⟩ := hr
 simp only at hd hsp hc1
 dsimp only
 refine koA inj_sc_mapOf (o_sc_mapOf _ _ _ hc1 (by unfold Far; omega)) fun u hu => ?_
 have hm := hu.1.mn
 refine OK.cast inj_board (a := ⟨⟨r.Terrains.take r.Terrains.length, (r.Kinds ++ sp).take r.Kinds.length, r.Stack, r.River, r.Road, r.Supply, r.Turns⟩, ⟨u.1.Width, u.1.Height, u.1.Terrain.take u.1.Terrain.length, u.1.Rivers.take u.1.Rivers.length, u.1.Roads.take u.1.Roads.length⟩⟩)
  (gvT (gvL_cons (giveT (Nat.le_refl _) rfl) (gvL_cons (giveN ok_cKind (by simp) rfl) (gvL_cons rfl (gvL_cons rfl (gvL_cons rfl (gvL_cons rfl (gvL_cons rfl (gvL_cons rfl (gvL_cons rfl (gvL_cons (giveN ok_cI (Nat.le_refl _) rfl) (gvL_cons (giveN ok_cI (Nat.le_refl _) rfl) (gvL_cons (giveN ok_cI (Nat.le_refl _) rfl) rfl))))))))))))) ?_
 have hkt : (r.Kinds ++ sp).take r.Kinds.length = r.Kinds := by simp
 simp only [hkt, List.take_length]
 exact OK.some ⟨(_, _), rfl, ⟨⟨hd.rn, hm⟩, hd.k0⟩, hu.2.to⟩
theorem o_sc_board (c : Dl1Cur) (n : Int) (hc : Cu c n) (hn : n ≤ Far - 400000) : ∃ v, A_sc_board c = some (en_sc_board v) ∧ (BoardN v.1 ∧ Cu v.2 (n + 3000)) := by
 obtain ⟨v, h1, h2, h3⟩ := o2_sc_board c n hc hn
 exact ⟨v, h1, h2.1, h3⟩
theorem o_sc_anyBoard (c : Dl1Cur) (n : Int) (hc : Cu c n) (hn : n ≤ Far - 500000) : ∃ v, A_sc_anyBoard c = some (en_sc_anyBoard v) ∧ (BoardN v.1 ∧ Cu v.2 (n + 10000)) := by
 refine okA (e_sc_anyBoard _) ?_
 unfold Far at hn
 refine koA inj_sc_board (o_sc_board _ _ hc (by unfold Far; omega)) fun r hr => ?_
 refine koA inj_sc_pick (o_sc_pick _ _ _ hr.2 (by unfold Far; omega)) fun p hp => ?_
 have hc2 := hp.2.2
 refine OK.ite (fun _ => ?_) (fun _ => ?_)
 ·refine koA inj_sc_anyRules (o_sc_anyRules _ _ hc2 (by unfold Far; omega)) fun q hq => ?_
  exact OK.some ⟨(_, _), rfl, ⟨hq.1, hr.1.m⟩, hq.2.to⟩
 refine OK.ite (fun _ => ?_) (fun _ => ?_)
 ·refine koA inj_sc_anyMap (o_sc_anyMap _ _ hc2 (by unfold Far; omega)) fun q hq => ?_
  exact OK.some ⟨(_, _), rfl, ⟨hr.1.r, hq.1.1⟩, hq.2.to⟩
 ·exact OK.some ⟨(r.1, p.2), rfl, hr.1, hc2.to⟩
theorem l_sc_state_L3 (b : DBoard) (hk0 : 0 < b.Rules.Kinds.length) (hb : BoardN b) (a0 a1 tu we : Int) : ∀ (k : Nat) (l : List DUnit) (c : Dl1Cur) (n : Int), l.length + k ≤ 20 → Cu c n → n ≤ Far - 1000 - 100 * k →
  ∃ v, L_sc_state_L3 l c b a0 a1 tu we 0 l.length l.length k = some (en_sc_state v) ∧ (v.1.Units.length = l.length + k ∧ Cu v.2 (n + 100 * k)) := by
 intro k
 induction k with
 | zero =>
  intro l c n _ hc hn
  refine okA (e_sc_state_L3 _ _ _ _ _ _ _ _ _ _ _) ?_
  rw [if_neg (by simp)]
  exact OK.some ⟨(⟨tu, we, l⟩, c), rfl, by show l.length = _; omega, hc.to⟩
 | succ k ih =>
  intro l c n hl hc hn
  unfold Far at hn
  refine okA (e_sc_state_L3 _ _ _ _ _ _ _ _ _ _ _) ?_
  have hw : IntKind.wrap .i64 (((k + 1 : Nat) : Int) - 1) = (k : Int) := by rw [wrap_id (by omega) (by omega)]; omega
  rw [if_pos (by simp), hw]
  refine koA inj_sc_pick (o_sc_pick _ _ _ hc (by unfold Far; omega)) fun v1 h1 => ?_
  refine koA inj_sc_pick (o_sc_pick _ _ _ h1.2.2 (by unfold Far; omega)) fun v2 h2 => ?_
  obtain ⟨kd, hkd⟩ := getI_ex h2.1 (l := b.Rules.Kinds) (by omega)
  rw [ixA_get sl_cKind _ _ hkd]
  refine koA inj_sc_pick (o_sc_pick _ _ _ h2.2.2 (by unfold Far; omega)) fun v3 h3 => ?_
  refine koA inj_sc_one (o_sc_one _ _ _ h3.2.2 (by unfold Far; omega)) fun v4 h4 => ?_
  refine OK.ite (fun _ => ?_) (fun _ => ?_)
  ·refine koA inj_sc_place (o_sc_place _ _ _ h4 (by unfold Far; omega)) fun v5 h5 => ?_
   rw [apR_eq rt_cUnit (l := l) (xs := [⟨v1.1, v2.1, v5.1, IntKind.wrap .i64 (1 + v3.1)⟩]) rfl (Src.row (n := 1) ok_cUnit rfl rfl) rfl rfl (by simp; omega) (by simp; omega) rfl]
   refine OK.cast inj_state (gvState (Nat.le_refl _) rfl) ?_
   rw [List.take_length]
   rw [cast_of inj_spec_sGood (c_spec_sGood _ _ hb (by show (l ++ [_]).length < _; simp; omega))]
   have hx : (l ++ [(⟨v1.1, v2.1, v5.1, IntKind.wrap .i64 (1 + v3.1)⟩ : DUnit)])[l.length]? = some ⟨v1.1, v2.1, v5.1, IntKind.wrap .i64 (1 + v3.1)⟩ := by simp
   refine OK.ite (fun _ => ?_) (fun _ => ?_)
   ·rw [oxA_at rt_cUnit (j := l.length) (by rw [wrap_id (by simp <;> omega) (by simp <;> omega)]; simp) (by simp)]
    rw [stF (f := 2) ok_cUnit rfl rfl hx rfl (by omega) rfl (y' := ⟨v1.1, v2.1, -1, IntKind.wrap .i64 (1 + v3.1)⟩) rfl]
    obtain ⟨r, q1, q2⟩ := ih ((l ++ [(⟨v1.1, v2.1, v5.1, IntKind.wrap .i64 (1 + v3.1)⟩ : DUnit)]).set l.length ⟨v1.1, v2.1, -1, IntKind.wrap .i64 (1 + v3.1)⟩) v5.2 (n + 100) (by simp; omega) h5.to (by unfold Far; omega)
    rw [List.length_set] at q1 q2
    exact ⟨_, q1, r, rfl, by rw [q2.1]; simp; omega, q2.2.to⟩
   ·obtain ⟨r, q1, q2⟩ := ih (l ++ [(⟨v1.1, v2.1, v5.1, IntKind.wrap .i64 (1 + v3.1)⟩ : DUnit)]) v5.2 (n + 100) (by simp; omega) h5.to (by unfold Far; omega)
    exact ⟨_, q1, r, rfl, by rw [q2.1]; simp; omega, q2.2.to⟩
  ·rw [apR_eq rt_cUnit (l := l) (xs := [⟨v1.1, v2.1, -1, IntKind.wrap .i64 (1 + v3.1)⟩]) rfl (Src.row (n := 1) ok_cUnit rfl rfl) rfl rfl (by simp; omega) (by simp; omega) rfl]
   refine OK.cast inj_state (gvState (Nat.le_refl _) rfl) ?_
   rw [List.take_length]
   rw [cast_of inj_spec_sGood (c_spec_sGood _ _ hb (by show (l ++ [_]).length < _; simp; omega))]
   have hx : (l ++ [(⟨v1.1, v2.1, -1, IntKind.wrap .i64 (1 + v3.1)⟩ : DUnit)])[l.length]? = some ⟨v1.1, v2.1, -1, IntKind.wrap .i64 (1 + v3.1)⟩ := by simp
   refine OK.ite (fun _ => ?_) (fun _ => ?_)
   ·rw [oxA_at rt_cUnit (j := l.length) (by rw [wrap_id (by simp <;> omega) (by simp <;> omega)]; simp) (by simp)]
    rw [stF (f := 2) ok_cUnit rfl rfl hx rfl (by omega) rfl (y' := ⟨v1.1, v2.1, -1, IntKind.wrap .i64 (1 + v3.1)⟩) rfl]
    obtain ⟨r, q1, q2⟩ := ih ((l ++ [(⟨v1.1, v2.1, -1, IntKind.wrap .i64 (1 + v3.1)⟩ : DUnit)]).set l.length ⟨v1.1, v2.1, -1, IntKind.wrap .i64 (1 + v3.1)⟩) v4.2 (n + 100) (by simp; omega) h4.to (by unfold Far; omega)
    rw [List.length_set] at q1 q2
    exact ⟨_, q1, r, rfl, by rw [q2.1]; simp; omega, q2.2.to⟩
   ·obtain ⟨r, q1, q2⟩ := ih (l ++ [(⟨v1.1, v2.1, -1, IntKind.wrap .i64 (1 + v3.1)⟩ : DUnit)]) v4.2 (n + 100) (by simp; omega) h4.to (by unfold Far; omega)
    exact ⟨_, q1, r, rfl, by rw [q2.1]; simp; omega, q2.2.to⟩
theorem o_sc_state (c : Dl1Cur) (b : DBoard) (hk0 : 0 < b.Rules.Kinds.length) (hb : BoardN b) (n : Int) (hc : Cu c n) (hn : n ≤ Far - 100000) : ∃ v, A_sc_state c b = some (en_sc_state v) ∧ (2 ≤ v.1.Units.length ∧ v.1.Units.length ≤ 8 ∧ Cu v.2 (n + 2000)) := by
 refine okA (e_sc_state _ _) ?_
 unfold Far at hn
 refine koA inj_sc_pick (o_sc_pick _ _ _ hc (by unfold Far; omega)) fun v1 h1 => ?_
 refine koA inj_sc_pick (o_sc_pick _ _ _ h1.2.2 (by unfold Far; omega)) fun v2 h2 => ?_
 refine koA inj_sc_pick (o_sc_pick _ _ _ h2.2.2 (by unfold Far; omega)) fun v3 h3 => ?_
 obtain ⟨k, hk⟩ : ∃ k : Nat, IntKind.wrap .i64 (2 + v3.1) = k := ⟨(2 + v3.1).toNat, by rw [wrap_id (by omega) (by omega)]; omega⟩
 have hk2 : (k : Int) = 2 + v3.1 := by rw [← hk, wrap_id (by omega) (by omega)]
 obtain ⟨r, q1, q2⟩ := l_sc_state_L3 b hk0 hb 0 0 v1.1 (Int.tmod v2.1 3) k [] v3.2 (n + 6) (by simp; omega) h3.2.2.to (by unfold Far; omega)
 rw [hk]
 simp only [List.length_nil, Nat.zero_add] at q2
 exact ⟨_, q1, r, rfl, by omega, by omega, q2.2.to⟩
def Arg (x : KSl) : Prop := ∃ l : List UInt8, (default : Known).kn (.slice x.A x.n x.k) = some (l.length, l.flatMap cY) ∧ l.length = x.n
theorem Arg.cu {x : KSl} (h : Arg x) : Cu ⟨x, 0, 0⟩ 0 := ⟨Int.le_refl _, Int.le_refl _, h⟩
def sumI {α : Type} (f : α → Int) : List α → Int
 | [] => 0
 | x :: r => f x + sumI f r
def onS {α : Type} (s : α → Int) (f : α → Int) (side : Int) (x : α) : Int := if s x = side then f x else 0
def hpL (us : List DUnit) (side : Int) : Int := sumI (onS DUnit.Side DUnit.Steps side) us
theorem kind_get {b : DBoard} (g : BoardG b) {u : DUnit} (h : unitB b u = true) : getI b.Rules.Kinds u.Kind = some (kindO b u.Kind) ∧ 1 ≤ (kindO b u.Kind).Steps ∧ (kindO b u.Kind).Steps ≤ 4 := by
 obtain ⟨h0, h1⟩ := unit_kind h
 obtain ⟨k, hk⟩ := getI_ex h0 h1
 obtain ⟨n, _, hn, _⟩ := getI_some hk
 have hb := g.kind k (mem_of_get hn)
 unfold kindB at hb
 simp only [Bool.and_eq_true, inB_iff] at hb
 unfold kindO
 rw [hk]
 exact ⟨rfl, hb.2.2.2.1⟩
theorem unit_steps {b : DBoard} {u : DUnit} (h : unitB b u = true) : 0 ≤ u.Steps ∧ u.Steps ≤ (kindO b u.Kind).Steps := by
 unfold unitB at h
 simp only [Bool.and_eq_true, inB_iff] at h
 exact h.2.2.1
def ofL (us : List DUnit) (side : Int) : List Int := colI (fun _ u => u.Side == side && decide (0 ≤ u.At)) (fun k _ => (k : Int)) us
theorem c_spec_sOf (s : DState) (side : Int) (hl : s.Units.length < 1000000000000) : A_spec_sOf s side = some (en_spec_sOf (ofL s.Units side)) := by
 apply e_spec_sOf
 unfold ofL
 refine col_loop (fun k acc => L_spec_sOf_L3 acc side s.Units s.Units.length k) s.Units _ _ (fun l => some (en_spec_sOf l)) ?_ (fun k x acc hx hi ha => ?_) _ rfl
 ·intro acc ha _ h; apply e_spec_sOf_L3
  rw [if_neg (by simp), ← h]
  rfl
 ·intro _ h; apply e_spec_sOf_L3
  rw [if_pos (by simpa using hi), ixA_at sl_cUnit rfl hx, wrap_id (by omega) (by omega),
   apR_eq rt_cI rfl (xs := [(k : Int)]) (Src.row (n := 1) ok_cI rfl rfl) rfl rfl (by simp; omega) (by simp; omega) rfl, ← h]
  cases x.Side == side <;> by_cases h0 : 0 ≤ x.At <;> simp [h0]
theorem stack_b {b : DBoard} (g : BoardG b) : 1 ≤ b.Rules.Stack ∧ b.Rules.Stack ≤ 4 := by
 have := g.rest
 unfold restB at this
 simp only [Bool.and_eq_true, inB_iff] at this
 omega
theorem kindq {b : DBoard} {k : Int} (h0 : 0 ≤ k) (h1 : k < b.Rules.Kinds.length) : getI b.Rules.Kinds k = some (kindO b k) := by
 obtain ⟨x, hx⟩ := getI_ex h0 h1
 unfold kindO
 rw [hx]
 rfl
theorem c_spec_sOwn (s : DState) (hl : s.Units.length < 1000000000000) : A_spec_sOwn s = some (en_spec_sOwn s) := by
 apply e_spec_sOwn
 rw [apR_eq rt_cUnit (l := []) (n := 0) (xs := s.Units) rfl (Src.slc ok_cUnit _) rfl rfl (by simp; omega) (by simp; omega) rfl]
 rfl
def loseU (x : DUnit) (n : Int) : DUnit := if (if IntKind.wrap .i64 (x.Steps - n) < 0 then 0 else IntKind.wrap .i64 (x.Steps - n)) = 0 then { x with Steps := 0, At := -1 } else { x with Steps := if IntKind.wrap .i64 (x.Steps - n) < 0 then 0 else IntKind.wrap .i64 (x.Steps - n) }
theorem gvState' {σ : Store} {t w : Int} {us : List DUnit} {i : Id} {f : Bool} {n m : Nat} (h : n = us.length) (g : σ.get? i = some (rowB f false 4 cUnit us)) : giveUpV σ (.agg [I t, I w, .own i none 0 n m]) = some (.agg (cState ⟨t, w, us⟩)) := by
 have := gvState (σ := σ) (t := t) (w := w) (us := us) (i := i) (f := f) (n := n) (m := m) (by omega) g
 rw [h, List.take_length] at this
 rw [h]
 exact this
theorem unit_place {b : DBoard} {u : DUnit} (h : unitB b u = true) (h0 : 0 ≤ u.At) : u.At < b.Map.Width * b.Map.Height ∧ 0 < u.Steps := by
 unfold unitB at h
 have : ¬ u.At = -1 := by omega
 simp only [Bool.and_eq_true, Bool.or_eq_true, beq_iff_eq, this, false_or, decide_eq_true_eq, inB_iff] at h
 omega
theorem mem_set {α : Type} {l : List α} {k : Nat} {z x : α} (h : x ∈ l.set k z) : x ∈ l ∨ x = z := by
 rcases List.mem_or_eq_of_mem_set h with h | h
 ·exact .inl h
 ·exact .inr h
theorem idxL_area {m : DMap} (h0 : 0 < m.Width) (h1 : 0 < m.Height) (h : DHex) : idxL m h < m.Width * m.Height := by
 unfold idxL
 have hp := Int.mul_pos h0 h1
 split
 ·rename_i hc
  simp only [Bool.and_eq_true, inB_iff] at hc
  have := Int.mul_le_mul_of_nonneg_right (show h.R ≤ m.Height - 1 by omega) (show 0 ≤ m.Width by omega)
  rw [Int.sub_mul, Int.one_mul, Int.mul_comm m.Height] at this
  omega
 ·omega
theorem nextL_area {m : DMap} (h0 : 0 < m.Width) (h1 : 0 < m.Height) (i d : Int) : nextL m i d < m.Width * m.Height := idxL_area h0 h1 _
def nbL (m : DMap) (i : Int) : List Int := (dl.map (nextL m i)).filter fun k => decide (0 ≤ k)
abbrev St2 := List Int × List Int
def visitB (op : List Bool) (d : Int) (st : St2) (k : Int) : St2 :=
 if (getI op k).getD false && decide ((getI st.1 k).getD 0 < 0) then (st.1.set k.toNat (d + 1), st.2 ++ [k]) else st
def quL (st : St2) (a : Nat) : Int := st.2.getD a 0
def farL (st : St2) (i : Int) : Int := (getI st.1 i).getD 0
def stepB (m : DMap) (op : List Bool) (a : Nat) (st : St2) : St2 := (nbL m (quL st a)).foldl (visitB op (farL st (quL st a))) st
def runB (m : DMap) (op : List Bool) : Nat → Nat → St2 → St2
 | 0, _, st => st
 | f + 1, a, st => if a < st.2.length then runB m op f (a + 1) (stepB m op a st) else st
def seedB (op : List Bool) (st : St2) (i : Int) : St2 := if (getI op i).getD false then (st.1.set i.toNat 0, st.2 ++ [i]) else st
def negs (l : List Int) : Nat := (l.filter fun v => decide (v < 0)).length
def totB (st : St2) : Nat := negs st.1 + st.2.length
theorem negs_set {l : List Int} {k : Nat} {v : Int} (h : l[k]? = some v) (z : Int) (hz : 0 ≤ z) : negs (l.set k z) + (if v < 0 then 1 else 0) = negs l := by
 unfold negs
 induction l generalizing k with
 | nil => simp at h
 | cons x l ih =>
  cases k with
  | zero =>
   simp only [List.getElem?_cons_zero, Option.some.injEq] at h
   subst h
   rw [List.set_cons_zero, List.filter_cons, List.filter_cons, if_neg (by simp; omega)]
   by_cases hx : x < 0
   ·simp [hx]
   ·simp [hx]
  | succ k =>
   simp only [List.getElem?_cons_succ] at h
   have := ih h
   rw [List.set_cons_succ, List.filter_cons, List.filter_cons]
   split
   ·simp only [List.length_cons]; omega
   ·exact this
structure BI (n : Nat) (src : List Int) (A : Int) (st : St2) : Prop where
 len : st.1.length = n
 idx : ∀ i ∈ st.2, 0 ≤ i ∧ i < n ∧ 0 ≤ farL st i
 bnd : ∀ v ∈ st.1, -1 ≤ v ∧ v ≤ A
 zero : ∀ k : Nat, st.1[k]? = some 0 → (k : Int) ∈ src
theorem far_get {st : St2} {i : Int} {n : Nat} (h : st.1.length = n) (h0 : 0 ≤ i) (h1 : i < n) : getI st.1 i = some (farL st i) := by
 unfold farL
 obtain ⟨x, hx⟩ := getI_ex (l := st.1) h0 (by omega)
 rw [hx]
 rfl
theorem far_mem {st : St2} {i : Int} {n : Nat} (h : st.1.length = n) (h0 : 0 ≤ i) (h1 : i < n) : farL st i ∈ st.1 := by
 obtain ⟨k, _, hx, _⟩ := getI_some (far_get h h0 h1)
 exact mem_of_get hx
theorem visit_cases {op : List Bool} {d : Int} {st : St2} {k : Int} {n : Nat} (hop : op.length = n) : visitB op d st k = st ∨ (0 ≤ k ∧ k < n ∧ getI op k = some true ∧ farL st k < 0 ∧ visitB op d st k = (st.1.set k.toNat (d + 1), st.2 ++ [k])) := by
 unfold visitB
 split
 ·rename_i h
  rw [Bool.and_eq_true, decide_eq_true_eq] at h
  cases ho : getI op k with
  | none => rw [ho] at h; cases h.1
  | some b =>
   rw [ho] at h
   have hb : b = true := h.1
   obtain ⟨j, hj, hx, hl⟩ := getI_some ho
   subst hb
   exact .inr ⟨by omega, by omega, rfl, h.2, rfl⟩
 ·exact .inl rfl
theorem far_set {st : St2} {k i : Int} {z : Int} {q : List Int} {n : Nat} (hl : st.1.length = n) (h0 : 0 ≤ k) (h1 : k < n) (hi : 0 ≤ i) : farL (st.1.set k.toNat z, q) i = if i = k then z else farL st i := by
 unfold farL getI
 dsimp only
 simp only [if_pos hi]
 by_cases h : i = k
 ·subst h
  rw [if_pos rfl, List.getElem?_set_self (by omega)]
  rfl
 ·rw [if_neg h, List.getElem?_set_ne (by omega)]
theorem visit_ok {op : List Bool} {n : Nat} {src : List Int} {A d i0 : Int} {st : St2} (hop : op.length = n) (h : BI n src A st) (h0 : 0 ≤ i0) (hi : i0 < n) (hd : farL st i0 = d) (hd0 : 0 ≤ d) (hdA : d + 1 ≤ A) (k : Int) :
  BI n src A (visitB op d st k) ∧ farL (visitB op d st k) i0 = d ∧ totB (visitB op d st k) = totB st ∧ (∃ q, (visitB op d st k).2 = st.2 ++ q) := by
 rcases visit_cases (d := d) (st := st) (k := k) hop with e | ⟨k0, k1, _, kn, e⟩
 ·rw [e]; exact ⟨h, hd, rfl, [], by simp⟩
 ·rw [e]
  have hne : i0 ≠ k := fun hc => by rw [← hc, hd] at kn; omega
  refine ⟨⟨by simp [h.len], fun i hm => ?_, fun v hv => ?_, fun j hj => ?_⟩, ?_, ?_, [k], rfl⟩
  ·dsimp only at hm
   rcases List.mem_append.1 hm with hm | hm
   ·have := h.idx i hm
    refine ⟨this.1, this.2.1, ?_⟩
    rw [far_set h.len k0 k1 this.1]
    split
    ·omega
    ·exact this.2.2
   ·simp only [List.mem_singleton] at hm
    subst hm
    refine ⟨k0, k1, ?_⟩
    rw [far_set h.len k0 k1 k0, if_pos rfl]
    omega
  ·rcases mem_set hv with hv | hv
   ·exact h.bnd v hv
   ·subst hv; omega
  ·dsimp only at hj
   by_cases hjk : k.toNat = j
   ·subst hjk
    rw [List.getElem?_set_self (by have := h.len; omega)] at hj
    injection hj with hj
    omega
   ·rw [List.getElem?_set_ne hjk] at hj
    exact h.zero j hj
  ·rw [far_set h.len k0 k1 h0, if_neg hne, hd]
  ·have hg := far_get h.len k0 k1
   obtain ⟨j, hj, hx, _⟩ := getI_some hg
   have := negs_set hx (d + 1) (by omega)
   rw [if_pos kn] at this
   unfold totB
   dsimp only
   rw [hj, Int.toNat_natCast, List.length_append]
   simp only [List.length_cons, List.length_nil]
   omega
structure BJ (n : Nat) (src : List Int) (A d i0 : Int) (T : Nat) (a : Nat) (st : St2) : Prop where
 bi : BI n src A st
 far : farL st i0 = d
 tot : totB st = T
 at_ : a < st.2.length ∧ quL st a = i0
theorem BJ.visit {op : List Bool} {n : Nat} {src : List Int} {A d i0 : Int} {T a : Nat} {st : St2} (hop : op.length = n) (h : BJ n src A d i0 T a st) (h0 : 0 ≤ i0) (hi : i0 < n) (hd0 : 0 ≤ d) (hdA : d + 1 ≤ A) (k : Int) : BJ n src A d i0 T a (visitB op d st k) := by
 obtain ⟨k1, k2, k3, q, k4⟩ := visit_ok hop h.bi h0 hi h.far hd0 hdA k
 have ha := h.at_
 refine ⟨k1, k2, k3.trans h.tot, by rw [k4, List.length_append]; omega, ?_⟩
 unfold quL at *
 rw [k4, List.getD_eq_getElem?_getD, List.getElem?_append_left ha.1, ← List.getD_eq_getElem?_getD]
 exact ha.2
theorem BJ.fold {op : List Bool} {n : Nat} {src : List Int} {A d i0 : Int} {T a : Nat} (hop : op.length = n) (h0 : 0 ≤ i0) (hi : i0 < n) (hd0 : 0 ≤ d) (hdA : d + 1 ≤ A) : ∀ (ks : List Int) (st : St2), BJ n src A d i0 T a st → BJ n src A d i0 T a (ks.foldl (visitB op d) st)
 | [], _, h => h
 | k :: ks, st, h => BJ.fold hop h0 hi hd0 hdA ks _ (h.visit hop h0 hi hd0 hdA k)
theorem BI.start {n : Nat} {src : List Int} {a : Nat} {st : St2} (h : BI n src a st) (ha : a < st.2.length) : 0 ≤ quL st a ∧ quL st a < n ∧ 0 ≤ farL st (quL st a) ∧ farL st (quL st a) ≤ a ∧ BJ n src ((a : Int) + 1) (farL st (quL st a)) (quL st a) (totB st) a st := by
 have hm : quL st a ∈ st.2 := by
  unfold quL
  rw [List.getD_eq_getElem?_getD, List.getElem?_eq_getElem ha]
  exact List.getElem_mem ha
 have hx := h.idx _ hm
 have hb := h.bnd _ (far_mem h.len hx.1 hx.2.1)
 exact ⟨hx.1, hx.2.1, hx.2.2, hb.2, ⟨⟨h.len, h.idx, fun v hv => by have := h.bnd v hv; omega, h.zero⟩, rfl, rfl, ha, rfl⟩⟩
theorem BI.step {m : DMap} {op : List Bool} {n : Nat} {src : List Int} {a : Nat} {st : St2} (hop : op.length = n) (h : BI n src a st) (ha : a < st.2.length) : BI n src ((a + 1 : Nat) : Int) (stepB m op a st) ∧ totB (stepB m op a st) = totB st := by
 obtain ⟨h0, h1, h2, h3, h4⟩ := h.start ha
 have := BJ.fold hop h0 h1 h2 (by omega) (nbL m (quL st a)) st h4
 refine ⟨?_, this.tot⟩
 have hb := this.bi
 rw [show ((a + 1 : Nat) : Int) = (a : Int) + 1 by omega]
 exact hb
theorem BI.run {m : DMap} {op : List Bool} {n : Nat} {src : List Int} (hop : op.length = n) : ∀ (f a : Nat) (st : St2), BI n src a st → ∃ A : Int, A ≤ a + f ∧ BI n src A (runB m op f a st)
 | 0, a, st, h => ⟨a, by omega, h⟩
 | f + 1, a, st, h => by
  unfold runB
  split
  ·rename_i ha
   obtain ⟨A, h1, h2⟩ := BI.run hop f (a + 1) _ (h.step (m := m) hop ha).1
   exact ⟨A, by omega, h2⟩
  ·exact ⟨a, by omega, h⟩
theorem seed_ok {op : List Bool} {n : Nat} {src : List Int} {st : St2} (hop : op.length = n) (h : BI n src 0 st) {i : Int} (hi : i ∈ src) : BI n src 0 (seedB op st i) ∧ totB (seedB op st i) ≤ totB st + 1 := by
 unfold seedB
 split
 ·rename_i ho
  cases hg : getI op i with
  | none => rw [hg] at ho; cases ho
  | some b =>
   obtain ⟨j, hj, hx, hl⟩ := getI_some hg
   subst hj
   have h0 : (0 : Int) ≤ (j : Int) := by omega
   have h1 : ((j : Nat) : Int) < n := by omega
   refine ⟨⟨by simp [h.len], fun z hm => ?_, fun v hv => ?_, fun k hk => ?_⟩, ?_⟩
   ·dsimp only at hm
    rcases List.mem_append.1 hm with hm | hm
    ·have := h.idx z hm
     refine ⟨this.1, this.2.1, ?_⟩
     rw [far_set h.len h0 h1 this.1]
     split
     ·omega
     ·exact this.2.2
    ·simp only [List.mem_singleton] at hm
     subst hm
     refine ⟨h0, h1, ?_⟩
     rw [far_set h.len h0 h1 h0, if_pos rfl]
     omega
   ·rcases mem_set hv with hv | hv
    ·exact h.bnd v hv
    ·subst hv; omega
   ·dsimp only at hk
    rw [Int.toNat_natCast] at hk
    by_cases hjk : j = k
    ·subst hjk; exact hi
    ·rw [List.getElem?_set_ne hjk] at hk
     exact h.zero k hk
   ·obtain ⟨q, hq, hqx, _⟩ := getI_some (far_get h.len h0 h1)
    have hjq : j = q := by omega
    subst hjq
    have := negs_set hqx 0 (by omega)
    unfold totB
    dsimp only
    rw [Int.toNat_natCast, List.length_append]
    simp only [List.length_cons, List.length_nil]
    split at this <;> omega
 ·exact ⟨h, by omega⟩
theorem seeds_ok {op : List Bool} {n : Nat} {src : List Int} (hop : op.length = n) : ∀ (l : List Int) (st : St2), (∀ i ∈ l, i ∈ src) → BI n src 0 st → BI n src 0 (l.foldl (seedB op) st) ∧ totB (l.foldl (seedB op) st) ≤ totB st + l.length
 | [], st, _, h => ⟨h, by simp⟩
 | i :: l, st, hl, h => by
  have h1 := seed_ok hop h (hl i (by simp))
  have h2 := seeds_ok hop l _ (fun j hj => hl j (by simp [hj])) h1.1
  exact ⟨h2.1, by rw [List.foldl_cons]; have := h1.2; have := h2.2; simp only [List.length_cons]; omega⟩
theorem BI.init (n : Nat) (src : List Int) : BI n src 0 (List.replicate n (-1), []) := by
 refine ⟨by simp, fun i hi => (by cases hi), fun v hv => ?_, fun k hk => ?_⟩
 ·have := List.eq_of_mem_replicate hv
  omega
 ·rw [List.getElem?_replicate] at hk
  split at hk <;> simp at hk
def seedsL (op : List Bool) (src : List Int) : St2 := src.foldl (seedB op) (List.replicate op.length (-1), [])
def spreadL (m : DMap) (op : List Bool) (src : List Int) : List Int := (runB m op (totB (seedsL op src)) 0 (seedsL op src)).1
theorem spread_len (m : DMap) (op : List Bool) (src : List Int) : (spreadL m op src).length = op.length := by
 have h := (seeds_ok (op := op) (n := op.length) (src := src) rfl src _ (fun _ h => h) (BI.init op.length src)).1
 obtain ⟨A, _, h⟩ := BI.run (m := m) rfl (totB (seedsL op src)) 0 _ h
 exact h.len
def zU : DUnit := ⟨0, 0, 0, 0⟩
def onSide (side : Int) (u : DUnit) : Bool := u.Side == side && decide (0 ≤ u.At)
theorem lose_one {u : DUnit} (h : 1 ≤ u.Steps) (h4 : u.Steps ≤ 100) : loseU u 1 = if u.Steps = 1 then { u with Steps := 0, At := -1 } else { u with Steps := u.Steps - 1 } := by
 unfold loseU
 rw [wrap_id (by omega) (by omega), if_neg (show ¬ u.Steps - 1 < 0 by omega)]
 by_cases h1 : u.Steps = 1
 ·rw [if_pos h1, if_pos (by omega)]
 ·rw [if_neg h1, if_neg (by omega)]
theorem on_steps {b : DBoard} {s : DState} (g : StateG b s) {u : DUnit} (hu : u ∈ s.Units) (h0 : 0 ≤ u.At) : 1 ≤ u.Steps ∧ u.Steps ≤ 4 := by
 have h1 := kind_get g.bg (g.u u hu)
 have h2 := unit_steps (g.u u hu)
 have h4 := unit_place (g.u u hu) h0
 omega
theorem mem_of {us : List DUnit} {side k : Int} (h : k ∈ ofL us side) : ∃ (n : Nat) (u : DUnit), k = n ∧ us[n]? = some u ∧ getI us k = some u ∧ onSide side u = true := by
 unfold ofL at h
 obtain ⟨n, u, h1, h2, h3⟩ := mem_colI.1 h
 exact ⟨n, u, h3.symm, h1, by rw [← h3, getI_nat]; exact h1, h2⟩
theorem nb_col (m : DMap) (i : Int) : colI (fun _ d => decide (0 ≤ nextL m i d)) (fun _ d => nextL m i d) dl = nbL m i := by
 have key : ∀ (l : List Int) (n : Nat), colN (fun _ d => decide (0 ≤ nextL m i d)) (fun _ d => nextL m i d) n l = (l.map (nextL m i)).filter fun k => decide (0 ≤ k) := by
  intro l
  induction l with
  | nil => intro n; rfl
  | cons x l ih =>
   intro n
   unfold colN
   rw [List.map_cons, List.filter_cons, ih]
 exact key dl 0
theorem c_impl_neighboursOn (m : DMap) (i : Int) (hm : MapB m) (hi : sm i) : A_impl_neighboursOn m i = some (en_impl_neighboursOn (nbL m i)) := by
 apply e_impl_neighboursOn
 rw [← nb_col]
 refine col_loop (fun k acc => L_impl_neighboursOn_L3 acc m i k) dl (fun _ d => decide (0 ≤ nextL m i d)) (fun _ d => nextL m i d) (fun acc => some (en_impl_neighboursOn acc)) ?_ (fun k x acc hx hk ha => ?_) _ rfl
 ·intro acc ha _ h; apply e_impl_neighboursOn_L3
  rw [if_neg (by simp [dl]), give_at ok_cI rfl, ← h]
  rfl
 ·intro _ h; apply e_impl_neighboursOn_L3
  obtain ⟨rfl, h6⟩ := dl_get hx
  rw [if_pos (by simp; omega), cast_of inj_impl_nextTo (c_impl_nextTo _ _ _ hm hi (by omega) (by omega)), wrap_id (by omega) (by omega)]
  by_cases hn : 0 ≤ nextL m i k
  ·rw [if_pos (by simpa using hn)] at h ⊢
   rw [apR_eq rt_cI rfl (xs := [nextL m i k]) (Src.row (n := 1) ok_cI rfl rfl) rfl rfl (by simp; omega) (by simp; omega) rfl]
   exact h
  ·rw [if_neg (by simpa using hn)] at h ⊢
   exact h
theorem visit_get {op : List Bool} {d : Int} {st : St2} {k : Int} {o : Bool} (h : getI op k = some o) : visitB op d st k = if o = true then (if farL st k < 0 then (st.1.set k.toNat (d + 1), st.2 ++ [k]) else st) else st := by
 unfold visitB farL
 rw [h]
 cases o with
 | false => simp
 | true => simp
structure SpreadOk (m : DMap) (op : List Bool) (src : List Int) : Prop where
 n : (op.length : Int) = m.Width * m.Height
 w : 0 < m.Width ∧ 0 < m.Height
 l : op.length ≤ 100
 s : ∀ i ∈ src, 0 ≤ i ∧ i < op.length
 q : src.length ≤ 20
 b : MapB m
theorem SpreadOk.nb {m : DMap} {op : List Bool} {src : List Int} (h : SpreadOk m op src) {i k : Int} (hk : k ∈ nbL m i) : 0 ≤ k ∧ k < op.length := by
 unfold nbL at hk
 rw [List.mem_filter, List.mem_map] at hk
 obtain ⟨⟨d, _, rfl⟩, h0⟩ := hk
 have := nextL_area h.w.1 h.w.2 i d
 have := h.n
 exact ⟨by simpa using h0, by omega⟩
theorem area_b {b : DBoard} (g : BoardG b) : (b.Map.Terrain.length : Int) = b.Map.Width * b.Map.Height ∧ b.Map.Terrain.length ≤ 100 := by
 have := Int.mul_le_mul g.w1 g.h1 (by have := g.h0; omega) (by omega)
 have := g.area
 exact ⟨g.area, by omega⟩
theorem gvc_at {α γ : Type} {σ : Store} {c : α → List AV} {e : Nat} (h : COk c e) {id : Id} {fr : Bool} {l : List α} (hb : σ.get? id = some (rowB fr false e c l)) (k : List α → Option γ) : cast (fun a => slc c a) (giveUpV σ (.own id none 0 l.length l.length)) k = k l := cast_of (slc_inj h) (giveV_at h hb) k
def srcB (b : DBoard) (l : List Int) : Bool := decide ((l.length : Int) ≤ 6) && (risingB l && l.all (inB 0 ((b.Map.Terrain.length : Int) - 1)))
theorem gvStT {σ : Store} {t w : Int} {us : List DUnit} {i : Id} {f : Bool} {n m : Nat} (h : n = us.length) (g : σ.get? i = some (rowB f false 4 cUnit us)) : giveUpT σ (.agg [I t, I w, .own i none 0 n m]) = some (.agg (cState ⟨t, w, us⟩)) := gvState' h g
theorem unit_of {us : List DUnit} {side k : Int} (h : k ∈ ofL us side) : ∃ (n : Nat) (u : DUnit), k = n ∧ n < us.length ∧ getI us k = some u ∧ u ∈ us ∧ (getI us k).getD zU = u ∧ onSide side u = true := by
 obtain ⟨n, u, h1, h2, h3, h4⟩ := mem_of h
 exact ⟨n, u, h1, (List.getElem?_eq_some_iff.1 h2).1, h3, mem_of_get h2, by rw [h3]; rfl, h4⟩
theorem of_len (us : List DUnit) (side : Int) : (ofL us side).length ≤ us.length := by
 unfold ofL colI
 have key : ∀ (l : List DUnit) (n : Nat), (colN (fun _ u => u.Side == side && decide (0 ≤ u.At)) (fun k _ => (k : Int)) n l).length ≤ l.length := by
  intro l
  induction l with
  | nil => intro n; simp [colN]
  | cons x l ih =>
   intro n
   unfold colN
   have := ih (n + 1)
   split <;> simp <;> omega
 exact key us 0
theorem col_filter (q : Int → Bool) (l : List Int) : colI (fun _ k => q k) (fun _ k => k) l = l.filter q := by
 have key : ∀ (l : List Int) (n : Nat), colN (fun _ k => q k) (fun _ k => k) n l = l.filter q := by
  intro l
  induction l with
  | nil => intro n; rfl
  | cons x l ih =>
   intro n
   unfold colN
   rw [List.filter_cons, ih]
 exact key l 0
def reachN (m : DMap) (op : List Bool) (src : List Int) : Nat → Int → Prop
 | 0, k => k ∈ src ∧ getI op k = some true
 | d + 1, k => ∃ j, reachN m op src d j ∧ k ∈ nbL m j ∧ getI op k = some true
def reached (st : St2) (i : Int) : Prop := 0 ≤ i ∧ 0 ≤ (getI st.1 i).getD (-1)
theorem reached_far {st : St2} {i : Int} (h : reached st i) : ∃ v, getI st.1 i = some v ∧ 0 ≤ v ∧ farL st i = v := by
 obtain ⟨_, h⟩ := h
 cases hg : getI st.1 i with
 | none => rw [hg] at h; simp at h
 | some v => rw [hg] at h; exact ⟨v, rfl, h, by unfold farL; rw [hg]; rfl⟩
structure BQ (m : DMap) (op : List Bool) (src : List Int) (n a : Nat) (st : St2) : Prop where
 len : st.1.length = n
 inq : ∀ i ∈ st.2, 0 ≤ i ∧ i < n ∧ reached st i
 all : ∀ i, reached st i → i ∈ st.2
 ord : ∀ (p q : Nat) (x y : Int), p ≤ q → st.2[p]? = some x → st.2[q]? = some y → farL st x ≤ farL st y
 top : ∀ (x c : Int), st.2[a]? = some c → x ∈ st.2 → farL st x ≤ farL st c + 1
 low : ∀ (p : Nat) (x : Int), p < a → st.2[p]? = some x → ∀ k ∈ nbL m x, getI op k = some true → reached st k ∧ farL st k ≤ farL st x + 1
 one : ∀ i, reached st i → reachN m op src (farL st i).toNat i
 src0 : ∀ i ∈ src, getI op i = some true → reached st i ∧ farL st i = 0
theorem getI_set {l : List Int} {k i z : Int} {n : Nat} (hl : l.length = n) (h0 : 0 ≤ k) (h1 : k < n) : getI (l.set k.toNat z) i = if i = k then some z else getI l i := by
 unfold getI
 by_cases hi : 0 ≤ i
 ·simp only [if_pos hi]
  by_cases h : i = k
  ·subst h
   rw [if_pos rfl, List.getElem?_set_self (by omega)]
  ·rw [if_neg h, List.getElem?_set_ne (by omega)]
 ·simp only [if_neg hi]
  rw [if_neg (by omega)]
theorem reached_set {st : St2} {k i z : Int} {q : List Int} {n : Nat} (hl : st.1.length = n) (h0 : 0 ≤ k) (h1 : k < n) (hz : 0 ≤ z) : reached (st.1.set k.toNat z, q) i ↔ i = k ∨ reached st i := by
 unfold reached
 dsimp only
 rw [getI_set hl h0 h1]
 by_cases h : i = k
 ·subst h
  rw [if_pos rfl]
  exact ⟨fun _ => .inl rfl, fun _ => ⟨h0, hz⟩⟩
 ·rw [if_neg h]
  exact ⟨.inr, fun h2 => h2.resolve_left h⟩
structure BV (m : DMap) (op : List Bool) (src : List Int) (n a : Nat) (c d : Int) (seen : List Int) (st : St2) : Prop where
 len : st.1.length = n
 inq : ∀ i ∈ st.2, 0 ≤ i ∧ i < n ∧ reached st i
 all : ∀ i, reached st i → i ∈ st.2
 cur : st.2[a]? = some c ∧ farL st c = d ∧ 0 ≤ d
 hi : ∀ x ∈ st.2, farL st x ≤ d + 1
 ord : ∀ (p q : Nat) (x y : Int), p ≤ q → st.2[p]? = some x → st.2[q]? = some y → farL st x ≤ farL st y
 low : ∀ (p : Nat) (x : Int), p < a → st.2[p]? = some x → ∀ k ∈ nbL m x, getI op k = some true → reached st k ∧ farL st k ≤ farL st x + 1
 one : ∀ i, reached st i → reachN m op src (farL st i).toNat i
 src0 : ∀ i ∈ src, getI op i = some true → reached st i ∧ farL st i = 0
 done : ∀ k ∈ seen, getI op k = some true → reached st k ∧ farL st k ≤ d + 1
theorem BV.visit {m : DMap} {op : List Bool} {src : List Int} {n a : Nat} {c d : Int} {seen : List Int} {st : St2} (hop : op.length = n) (h : BV m op src n a c d seen st) {k : Int} (hk : k ∈ nbL m c) :
  BV m op src n a c d (seen ++ [k]) (visitB op d st k) := by
 rcases visit_cases (d := d) (st := st) (k := k) hop with e | ⟨k0, k1, ko, kn, e⟩
 ·rw [e]
  refine ⟨h.len, h.inq, h.all, h.cur, h.hi, h.ord, h.low, h.one, h.src0, ?_⟩
  intro x hx hox
  rcases List.mem_append.1 hx with hx | hx
  ·exact h.done x hx hox
  ·simp only [List.mem_singleton] at hx
   subst hx
   obtain ⟨j, hj, hjx, hjl⟩ := getI_some hox
   have hg := far_get h.len (i := x) (by omega) (by omega)
   have hr : reached st x := by
    refine ⟨by omega, ?_⟩
    rw [hg]
    show 0 ≤ farL st x
    by_cases hneg : farL st x < 0
    ·exfalso
     have e2 : visitB op d st x = (st.1.set x.toNat (d + 1), st.2 ++ [x]) := by rw [visit_get hox, if_pos rfl, if_pos hneg]
     rw [e] at e2
     have := congrArg (fun z : St2 => z.2.length) e2
     simp at this
    ·omega
   exact ⟨hr, h.hi x (h.all x hr)⟩
 ·have hnot : ∀ x, reached st x → x ≠ k := fun x hx hxk => by
   obtain ⟨v, _, h2, h3⟩ := reached_far hx
   rw [hxk] at h3
   omega
  have hd := h.cur.2.2
  have far' : ∀ x, 0 ≤ x → farL (st.1.set k.toNat (d + 1), st.2 ++ [k]) x = if x = k then d + 1 else farL st x := fun x hx => far_set h.len k0 k1 hx
  have farr : ∀ x, reached st x → farL (st.1.set k.toNat (d + 1), st.2 ++ [k]) x = farL st x := fun x hx => by rw [far' x hx.1, if_neg (hnot x hx)]
  have fark : farL (st.1.set k.toNat (d + 1), st.2 ++ [k]) k = d + 1 := by rw [far' k k0, if_pos rfl]
  have rs : ∀ x, reached (st.1.set k.toNat (d + 1), st.2 ++ [k]) x ↔ x = k ∨ reached st x := fun x => reached_set h.len k0 k1 (by omega)
  have hcl : st.2[a]? = some c := h.cur.1
  have hal := (List.getElem?_eq_some_iff.1 hcl).1
  have hrc : reached st c := (h.inq c (mem_of_get hcl)).2.2
  have get' : ∀ p x, (st.2 ++ [k])[p]? = some x → (p < st.2.length ∧ st.2[p]? = some x) ∨ (p = st.2.length ∧ x = k) := fun p x hx => by
   by_cases hp : p < st.2.length
   ·rw [List.getElem?_append_left hp] at hx
    exact .inl ⟨hp, hx⟩
   ·rw [List.getElem?_append_right (by omega)] at hx
    have hp2 := (List.getElem?_eq_some_iff.1 hx).1
    simp only [List.length_cons, List.length_nil] at hp2
    have hpe : p = st.2.length := by omega
    subst hpe
    simp at hx
    exact .inr ⟨rfl, hx.symm⟩
  rw [e]
  refine ⟨by simp [h.len], fun i hi => ?_, fun i hi => ?_, ?_, fun x hx => ?_, fun p q x y hpq hx hy => ?_, fun p x hp hx k' hk' ho' => ?_, fun i hi => ?_, fun i hi ho => ?_, fun x hx ho => ?_⟩
  ·rcases List.mem_append.1 hi with hi | hi
   ·have := h.inq i hi
    exact ⟨this.1, this.2.1, (rs i).2 (.inr this.2.2)⟩
   ·simp only [List.mem_singleton] at hi
    subst hi
    exact ⟨k0, k1, (rs i).2 (.inl rfl)⟩
  ·rcases (rs i).1 hi with hi | hi
   ·subst hi; exact List.mem_append.2 (.inr (by simp))
   ·exact List.mem_append.2 (.inl (h.all i hi))
  ·refine ⟨by rw [List.getElem?_append_left hal]; exact hcl, by rw [farr c hrc]; exact h.cur.2.1, hd⟩
  ·rcases List.mem_append.1 hx with hx | hx
   ·rw [farr x (h.inq x hx).2.2]; exact h.hi x hx
   ·simp only [List.mem_singleton] at hx
    subst hx
    rw [fark]; omega
  ·rcases get' p x hx with ⟨hp, hx⟩ | ⟨hp, hx⟩
   ·rw [farr x (h.inq x (mem_of_get hx)).2.2]
    rcases get' q y hy with ⟨hq, hy⟩ | ⟨hq, hy⟩
    ·rw [farr y (h.inq y (mem_of_get hy)).2.2]
     exact h.ord p q x y hpq hx hy
    ·rw [hy, fark]
     exact h.hi x (mem_of_get hx)
   ·rcases get' q y hy with ⟨hq, hy⟩ | ⟨hq, hy⟩
    ·omega
    ·rw [hx, hy]; omega
  ·rcases get' p x hx with ⟨hp2, hx⟩ | ⟨hp2, hx⟩
   ·have := h.low p x hp hx k' hk' ho'
    rw [farr k' this.1, farr x (h.inq x (mem_of_get hx)).2.2]
    exact ⟨(rs k').2 (.inr this.1), this.2⟩
   ·omega
  ·rcases (rs i).1 hi with hi | hi
   ·subst hi
    rw [fark, show (d + 1).toNat = d.toNat + 1 by omega]
    have := h.one c hrc
    rw [h.cur.2.1] at this
    exact ⟨c, this, hk, ko⟩
   ·rw [farr i hi]; exact h.one i hi
  ·have := h.src0 i hi ho
   exact ⟨(rs i).2 (.inr this.1), by rw [farr i this.1]; exact this.2⟩
  ·rcases List.mem_append.1 hx with hx | hx
   ·have := h.done x hx ho
    exact ⟨(rs x).2 (.inr this.1), by rw [farr x this.1]; exact this.2⟩
   ·simp only [List.mem_singleton] at hx
    subst hx
    exact ⟨(rs x).2 (.inl rfl), by rw [fark]; omega⟩
theorem BV.fold {m : DMap} {op : List Bool} {src : List Int} {n a : Nat} {c d : Int} (hop : op.length = n) : ∀ (ks seen : List Int) (st : St2), (∀ k ∈ ks, k ∈ nbL m c) → BV m op src n a c d seen st → BV m op src n a c d (seen ++ ks) (ks.foldl (visitB op d) st)
 | [], seen, st, _, h => by simpa using h
 | k :: ks, seen, st, hk, h => by
  have := BV.fold hop ks (seen ++ [k]) _ (fun x hx => hk x (by simp [hx])) (h.visit hop (hk k (by simp)))
  simpa using this
theorem BQ.step {m : DMap} {op : List Bool} {src : List Int} {n a : Nat} {st : St2} (hop : op.length = n) (h : BQ m op src n a st) (ha : a < st.2.length) : BQ m op src n (a + 1) (stepB m op a st) := by
 have hq : st.2[a]? = some (quL st a) := by unfold quL; rw [List.getD_eq_getElem?_getD, List.getElem?_eq_getElem ha]; rfl
 have hc := h.inq _ (mem_of_get hq)
 obtain ⟨v, _, hv, hv2⟩ := reached_far hc.2.2
 have h0 : BV m op src n a (quL st a) (farL st (quL st a)) [] st :=
  ⟨h.len, h.inq, h.all, ⟨hq, rfl, by omega⟩, fun x hx => h.top x _ hq hx, h.ord, h.low, h.one, h.src0, fun k hk => by cases hk⟩
 have hf := BV.fold hop (nbL m (quL st a)) [] st (fun _ hk => hk) h0
 rw [List.nil_append] at hf
 have hf : BV m op src n a (quL st a) (farL st (quL st a)) (nbL m (quL st a)) (stepB m op a st) := hf
 refine ⟨hf.len, hf.inq, hf.all, hf.ord, fun x c' hc' hx => ?_, fun p x hp hx k hk ho => ?_, hf.one, hf.src0⟩
 ·have h1 := hf.hi x hx
  have h2 := hf.ord a (a + 1) _ _ (by omega) hf.cur.1 hc'
  rw [hf.cur.2.1] at h2
  omega
 ·by_cases hpa : p = a
  ·subst hpa
   have := hf.cur.1
   rw [hx] at this
   injection this with this
   subst this
   rw [hf.cur.2.1]
   exact hf.done k hk ho
  ·exact hf.low p x (by omega) hx k hk ho
structure BS (m : DMap) (op : List Bool) (src : List Int) (n : Nat) (seen : List Int) (st : St2) : Prop where
 len : st.1.length = n
 inq : ∀ i ∈ st.2, 0 ≤ i ∧ i < n ∧ reached st i ∧ farL st i = 0
 all : ∀ i, reached st i → i ∈ st.2
 one : ∀ i, reached st i → i ∈ src ∧ getI op i = some true
 done : ∀ i ∈ seen, getI op i = some true → reached st i
theorem BS.seed {m : DMap} {op : List Bool} {src : List Int} {n : Nat} {seen : List Int} {st : St2} (hop : op.length = n) (h : BS m op src n seen st) {i : Int} (hi : i ∈ src) : BS m op src n (seen ++ [i]) (seedB op st i) := by
 unfold seedB
 cases hg : getI op i with
 | none =>
  refine ⟨h.len, h.inq, h.all, h.one, fun x hx ho => ?_⟩
  rcases List.mem_append.1 hx with hx | hx
  ·exact h.done x hx ho
  ·simp only [List.mem_singleton] at hx
   subst hx
   rw [hg] at ho; cases ho
 | some o =>
  cases o with
  | false =>
   refine ⟨h.len, h.inq, h.all, h.one, fun x hx ho => ?_⟩
   rcases List.mem_append.1 hx with hx | hx
   ·exact h.done x hx ho
   ·simp only [List.mem_singleton] at hx
    subst hx
    rw [hg] at ho; cases ho
  | true =>
   obtain ⟨j, hj, _, hl⟩ := getI_some hg
   have k0 : 0 ≤ i := by omega
   have k1 : i < n := by omega
   have rs : ∀ x, reached (st.1.set i.toNat 0, st.2 ++ [i]) x ↔ x = i ∨ reached st x := fun x => reached_set h.len k0 k1 (Int.le_refl 0)
   rw [if_pos (show (some true).getD false = true from rfl)]
   refine ⟨by simp [h.len], fun x hx => ?_, fun x hx => ?_, fun x hx => ?_, fun x hx ho => ?_⟩
   ·rcases List.mem_append.1 hx with hx | hx
    ·have := h.inq x hx
     refine ⟨this.1, this.2.1, (rs x).2 (.inr this.2.2.1), ?_⟩
     rw [far_set h.len k0 k1 this.1]
     split
     ·rfl
     ·exact this.2.2.2
    ·simp only [List.mem_singleton] at hx
     subst hx
     exact ⟨k0, k1, (rs x).2 (.inl rfl), by rw [far_set h.len k0 k1 k0, if_pos rfl]⟩
   ·rcases (rs x).1 hx with hx | hx
    ·subst hx; exact List.mem_append.2 (.inr (by simp))
    ·exact List.mem_append.2 (.inl (h.all x hx))
   ·rcases (rs x).1 hx with hx | hx
    ·subst hx; exact ⟨hi, hg⟩
    ·exact h.one x hx
   ·rcases List.mem_append.1 hx with hx | hx
    ·exact (rs x).2 (.inr (h.done x hx ho))
    ·simp only [List.mem_singleton] at hx
     subst hx
     exact (rs x).2 (.inl rfl)
theorem BS.fold {m : DMap} {op : List Bool} {src : List Int} {n : Nat} (hop : op.length = n) : ∀ (l seen : List Int) (st : St2), (∀ i ∈ l, i ∈ src) → BS m op src n seen st → BS m op src n (seen ++ l) (l.foldl (seedB op) st)
 | [], seen, st, _, h => by simpa using h
 | i :: l, seen, st, hl, h => by
  have := BS.fold hop l (seen ++ [i]) _ (fun j hj => hl j (by simp [hj])) (h.seed hop (hl i (by simp)))
  simpa using this
theorem BS.queue {m : DMap} {op : List Bool} {src : List Int} {n : Nat} {st : St2} (h : BS m op src n src st) : BQ m op src n 0 st := by
 refine ⟨h.len, fun i hi => ⟨(h.inq i hi).1, (h.inq i hi).2.1, (h.inq i hi).2.2.1⟩, h.all, fun p q x y _ hx hy => ?_, fun x c hc hx => ?_, fun p x hp => by omega, fun i hi => ?_, fun i hi ho => ?_⟩
 ·rw [(h.inq x (mem_of_get hx)).2.2.2, (h.inq y (mem_of_get hy)).2.2.2]; exact Int.le_refl 0
 ·rw [(h.inq x hx).2.2.2, (h.inq c (mem_of_get hc)).2.2.2]; omega
 ·rw [(h.inq i (h.all i hi)).2.2.2]
  exact h.one i hi
 ·have := h.done i hi ho
  exact ⟨this, (h.inq i (h.all i this)).2.2.2⟩
theorem BQ.run {m : DMap} {op : List Bool} {src : List Int} {n : Nat} (hop : op.length = n) : ∀ (f a : Nat) (st : St2), totB st ≤ a + f → BI n src a st → BQ m op src n a st → ∃ b, (runB m op f a st).2.length ≤ b ∧ BQ m op src n b (runB m op f a st)
 | 0, a, st, ht, _, h => ⟨a, by unfold runB; unfold totB at ht; omega, h⟩
 | f + 1, a, st, ht, hb, h => by
  unfold runB
  split
  ·rename_i ha
   have hs := hb.step (m := m) hop ha
   exact BQ.run hop f (a + 1) _ (by omega) hs.1 (h.step hop ha)
  ·exact ⟨a, by omega, h⟩
theorem spread_queue (m : DMap) (op : List Bool) (src : List Int) : ∃ b st, spreadL m op src = st.1 ∧ st.2.length ≤ b ∧ BQ m op src op.length b st := by
 have hi := (seeds_ok (op := op) (n := op.length) (src := src) rfl src _ (fun _ h => h) (BI.init op.length src)).1
 have h0 : BS m op src op.length [] (List.replicate op.length (-1), []) := by
  have nr : ∀ i, ¬ reached (List.replicate op.length (-1), []) i := fun i hr => by
   obtain ⟨v, h1, h2, _⟩ := reached_far hr
   obtain ⟨k, _, hx, _⟩ := getI_some h1
   have := List.eq_of_mem_replicate (mem_of_get hx)
   omega
  exact ⟨by simp, fun i hi => (by cases hi), fun i hi => absurd hi (nr i), fun i hi => absurd hi (nr i), fun i hi => (by cases hi)⟩
 have hs := BS.fold rfl src [] _ (fun _ h => h) h0
 rw [List.nil_append] at hs
 obtain ⟨b, h1, h2⟩ := BQ.run (m := m) rfl (totB (seedsL op src)) 0 (seedsL op src) (by omega) hi hs.queue
 exact ⟨b, _, rfl, h1, h2⟩
theorem spread_le {m : DMap} {op : List Bool} {src : List Int} {d : Nat} {k : Int} (h : reachN m op src d k) : ∃ v, getI (spreadL m op src) k = some v ∧ 0 ≤ v ∧ v ≤ d := by
 obtain ⟨b, st, he, hb, hq⟩ := spread_queue m op src
 have key : ∀ (d : Nat) (k : Int), reachN m op src d k → reached st k ∧ farL st k ≤ d := by
  intro d
  induction d with
  | zero =>
   intro k h
   have := hq.src0 k h.1 h.2
   exact ⟨this.1, by omega⟩
  | succ d ih =>
   intro k h
   obtain ⟨j, hj, hk, ho⟩ := h
   have h1 := ih j hj
   obtain ⟨p, hp, hpx⟩ := List.mem_iff_getElem.1 (hq.all j h1.1)
   have := hq.low p j (by omega) (by rw [List.getElem?_eq_getElem hp, hpx]) k hk ho
   exact ⟨this.1, by omega⟩
 have := key d k h
 obtain ⟨v, h1, h2, h3⟩ := reached_far this.1
 rw [he]
 exact ⟨v, h1, h2, by omega⟩
theorem spread_one {m : DMap} {op : List Bool} {src : List Int} {k v : Int} (h : getI (spreadL m op src) k = some v) (h0 : 0 ≤ v) : reachN m op src v.toNat k := by
 obtain ⟨b, st, he, hb, hq⟩ := spread_queue m op src
 rw [he] at h
 obtain ⟨j, hj, _⟩ := getI_some h
 have hr : reached st k := ⟨by omega, by rw [h]; exact h0⟩
 have := hq.one k hr
 have hf : farL st k = v := by unfold farL; rw [h]; rfl
 rwa [hf] at this
theorem hexL_idx {m : DMap} {h : DHex} (h0 : 0 ≤ idxL m h) : hexL m (idxL m h) = h := by
 unfold idxL at *
 split at h0
 ·rename_i hc
  rw [if_pos hc]
  simp only [Bool.and_eq_true, inB_iff] at hc
  obtain ⟨⟨a, b⟩, c, d⟩ := hc
  obtain ⟨q, r⟩ := h
  dsimp only at a b c d h0 ⊢
  unfold hexL
  rw [Int.tmod_eq_emod_of_nonneg h0, Int.tdiv_eq_ediv_of_nonneg h0]
  have e : r * m.Width + q = q + r * m.Width := by omega
  rw [e, Int.add_mul_emod_self_right, Int.add_mul_ediv_right _ _ (by omega), Int.emod_eq_of_lt a (by omega), Int.ediv_eq_zero_of_lt a (by omega)]
  simp
 ·omega
theorem idx_hexL {m : DMap} {i : Int} (hw : 0 < m.Width) (h0 : 0 ≤ i) (h1 : i < m.Width * m.Height) : idxL m (hexL m i) = i := by
 unfold idxL hexL
 rw [Int.tmod_eq_emod_of_nonneg h0, Int.tdiv_eq_ediv_of_nonneg h0]
 dsimp only
 have a := Int.emod_nonneg i (show m.Width ≠ 0 by omega)
 have b := Int.emod_lt_of_pos i hw
 have c : 0 ≤ i / m.Width := Int.ediv_nonneg h0 (Int.le_of_lt hw)
 have d : i / m.Width < m.Height := Int.ediv_lt_of_lt_mul hw (by rwa [Int.mul_comm] at h1)
 rw [if_pos (by simp only [Bool.and_eq_true, inB_iff]; omega)]
 have := Int.emod_add_mul_ediv i m.Width
 rw [Int.mul_comm] at this
 omega
theorem step_back (h : DHex) {d : Int} (hd : d ∈ dl) : ∃ e ∈ dl, stepL (stepL h d 1) e 1 = h := by
 obtain ⟨q, r⟩ := h
 simp only [dl, List.mem_cons, List.not_mem_nil, or_false] at hd
 rcases hd with h | h | h | h | h | h <;> subst h
 ·exact ⟨3, by simp [dl], by simp [stepL, nthI, dq, dr]; omega⟩
 ·exact ⟨4, by simp [dl], by simp [stepL, nthI, dq, dr]; omega⟩
 ·exact ⟨5, by simp [dl], by simp [stepL, nthI, dq, dr]; omega⟩
 ·exact ⟨0, by simp [dl], by simp [stepL, nthI, dq, dr]; omega⟩
 ·exact ⟨1, by simp [dl], by simp [stepL, nthI, dq, dr]; omega⟩
 ·exact ⟨2, by simp [dl], by simp [stepL, nthI, dq, dr]; omega⟩
theorem nb_step {m : DMap} {i k : Int} (hk : k ∈ nbL m i) : 0 ≤ k ∧ ∃ d ∈ dl, k = nextL m i d ∧ hexL m k = stepL (hexL m i) d 1 := by
 unfold nbL at hk
 rw [List.mem_filter, List.mem_map] at hk
 obtain ⟨⟨d, hd, rfl⟩, hk0⟩ := hk
 have hk0 : 0 ≤ nextL m i d := by simpa using hk0
 refine ⟨hk0, d, hd, rfl, ?_⟩
 unfold nextL at hk0 ⊢
 exact hexL_idx hk0
theorem nb_symm {m : DMap} {i k : Int} (hw : 0 < m.Width) (h0 : 0 ≤ i) (h1 : i < m.Width * m.Height) (hk : k ∈ nbL m i) : i ∈ nbL m k := by
 obtain ⟨k0, d, hd, rfl, he⟩ := nb_step hk
 obtain ⟨e, he1, he2⟩ := step_back (hexL m i) hd
 unfold nbL
 rw [List.mem_filter, List.mem_map]
 refine ⟨⟨e, he1, ?_⟩, by simpa using h0⟩
 unfold nextL at he ⊢
 rw [he, he2, idx_hexL hw h0 h1]
theorem reach_open {m : DMap} {op : List Bool} {src : List Int} {d : Nat} {k : Int} (h : reachN m op src d k) : getI op k = some true := by
 cases d with
 | zero => exact h.2
 | succ d =>
  obtain ⟨_, _, _, h⟩ := h
  exact h
structure MapO (m : DMap) (op : List Bool) : Prop where
 w : 0 < m.Width
 n : (op.length : Int) = m.Width * m.Height
theorem MapO.back {m : DMap} {op : List Bool} (h : MapO m op) {c i : Int} {b : Bool} (hc : getI op c = some b) (hi : i ∈ nbL m c) : c ∈ nbL m i := by
 obtain ⟨k, rfl, hk, _⟩ := getI_some hc
 have := h.n
 have hl := (List.getElem?_eq_some_iff.1 hk).1
 exact nb_symm h.w (by omega) (by omega) hi
theorem reach_cat {m : DMap} {op : List Bool} {src : List Int} {a : Int} (hm : MapO m op) : ∀ (b : Nat) (i : Int) (n : Nat), reachN m op [a] b i → reachN m op src n i → reachN m op src (n + b) a
 | 0, i, n, h, h2 => by
  have : i = a := by simpa using h.1
  subst this
  exact h2
 | b + 1, i, n, ⟨c, hc, hi, ho⟩, h2 => by
  have oc := reach_open hc
  have := reach_cat hm b c (n + 1) hc ⟨i, h2, hm.back oc hi, oc⟩
  rwa [show n + 1 + b = n + (b + 1) by omega] at this
theorem reach_src {m : DMap} {op : List Bool} {src : List Int} {a : Int} (hm : MapO m op) : ∀ (n : Nat) (k : Int) (b : Nat), reachN m op src n k → reachN m op [a] b k → ∃ s ∈ src, reachN m op [a] (b + n) s
 | 0, k, b, h, h2 => ⟨k, h.1, h2⟩
 | n + 1, k, b, ⟨c, hc, hk, ho⟩, h2 => by
  have oc := reach_open hc
  have := reach_src hm n c (b + 1) hc ⟨k, h2, hm.back oc hk, oc⟩
  rwa [show b + 1 + n = b + (n + 1) by omega] at this
theorem far_sum {m : DMap} {op : List Bool} {src : List Int} {a k v w : Int} (hm : MapO m op) (h : getI (spreadL m op src) k = some v) (hv : 0 ≤ v) (h2 : getI (spreadL m op [a]) k = some w) (hw : 0 ≤ w) : ∃ n, getI (spreadL m op src) a = some n ∧ 0 ≤ n ∧ n ≤ v + w := by
 obtain ⟨n, h1, h2, h3⟩ := spread_le (reach_cat hm _ _ _ (spread_one h2 hw) (spread_one h hv))
 exact ⟨n, h1, h2, by omega⟩
theorem far_edge {m : DMap} {op : List Bool} {src : List Int} {j k v : Int} (h : getI (spreadL m op src) j = some v) (hv : 0 ≤ v) (hk : k ∈ nbL m j) (ho : getI op k = some true) : ∃ w, getI (spreadL m op src) k = some w ∧ 0 ≤ w ∧ w ≤ v + 1 := by
 obtain ⟨n, h1, h2, h3⟩ := spread_le (d := v.toNat + 1) ⟨j, spread_one h hv, hk, ho⟩
 exact ⟨n, h1, h2, by omega⟩
theorem far_zero {m : DMap} {op : List Bool} {src : List Int} {k : Int} (hk : k ∈ src) (ho : getI op k = some true) : getI (spreadL m op src) k = some 0 := by
 obtain ⟨n, h1, h2, h3⟩ := spread_le (m := m) (d := 0) ⟨hk, ho⟩
 rw [h1]
 congr 1
 omega
theorem far_open {m : DMap} {op : List Bool} {src : List Int} {k v : Int} (h : getI (spreadL m op src) k = some v) (hv : 0 ≤ v) : getI op k = some true := reach_open (spread_one h hv)
theorem zero_src {m : DMap} {op : List Bool} {src : List Int} {k : Int} (h : getI (spreadL m op src) k = some 0) : k ∈ src := (spread_one h (by omega)).1
theorem far_start {m : DMap} {op : List Bool} {src : List Int} {a n : Int} (hm : MapO m op) (h : getI (spreadL m op src) a = some n) (hn : 0 ≤ n) : ∃ s ∈ src, getI (spreadL m op [a]) s = some n := by
 have ha := far_open h hn
 obtain ⟨s, hs, hr⟩ := reach_src (a := a) hm _ a 0 (spread_one h hn) ⟨by simp, ha⟩
 obtain ⟨v, h1, h2, h3⟩ := spread_le hr
 obtain ⟨q, q1, q2, q3⟩ := far_sum hm (far_zero (m := m) hs (far_open h1 h2)) (by omega) h1 h2
 rw [h] at q1
 cases q1
 refine ⟨s, hs, ?_⟩
 rw [h1]
 congr 1
 omega
theorem far_next {m : DMap} {op : List Bool} {src : List Int} {j w : Int} (hm : MapO m op) (h : getI (spreadL m op src) j = some w) (hw : 1 ≤ w) : ∃ k ∈ nbL m j, getI (spreadL m op src) k = some (w - 1) := by
 have hr := spread_one h (by omega)
 obtain ⟨d, hd⟩ : ∃ d, w.toNat = d + 1 := ⟨w.toNat - 1, by omega⟩
 rw [hd] at hr
 obtain ⟨c, hc, hj, ho⟩ := hr
 obtain ⟨v, h1, h2, h3⟩ := spread_le hc
 have oc := reach_open hc
 obtain ⟨q, q1, q2, q3⟩ := far_edge h1 h2 hj ho
 rw [h] at q1
 cases q1
 refine ⟨c, hm.back oc hj, ?_⟩
 rw [h1]
 congr 1
 omega
def okAt (m : DMap) (op : List Bool) (l : List Int) (n : Nat) : Bool := match l[n]? with
 | none => true
 | some i => (getI op i).getD false && (n == 0 || decide (i ∈ nbL m (l.getD (n - 1) 0)))
theorem fold_inv {α β : Type} (f : β → α → β) (Q : List α → β → Prop) (hs : ∀ pre x b, Q pre b → Q (pre ++ [x]) (f b x)) : ∀ (post pre : List α) (b : β), Q pre b → Q (pre ++ post) (post.foldl f b)
 | [], pre, b, h => by simpa using h
 | x :: r, pre, b, h => by
  have := fold_inv f Q hs r (pre ++ [x]) (f b x) (hs pre x b h)
  rw [List.append_assoc] at this
  exact this
def minW (p : Int → Bool) (l : List Int) : Int := l.foldl (fun best k => if p k && (decide (best < 0) || decide (k < best)) then k else best) (-1)
theorem minW_ok {p : Int → Bool} {l : List Int} (hl : ∀ k ∈ l, 0 ≤ k) (he : ∃ k ∈ l, p k = true) : minW p l ∈ l ∧ p (minW p l) = true ∧ ∀ k ∈ l, p k = true → minW p l ≤ k := by
 have key := fold_inv (fun best k => if p k && (decide (best < 0) || decide (k < best)) then k else best) (fun pre best => (∀ k ∈ pre, 0 ≤ k) → ((best = -1 ∧ ∀ k ∈ pre, p k = false) ∨ (0 ≤ best ∧ best ∈ pre ∧ p best = true ∧ ∀ k ∈ pre, p k = true → best ≤ k))) (fun pre x b ih hp => by
  have ih := ih fun k hk => hp k (List.mem_append_left _ hk)
  have hx := hp x (by simp)
  cases hpx : p x with
  | false =>
   simp only [Bool.false_and, Bool.false_eq_true, if_false]
   rcases ih with ⟨h1, h2⟩ | ⟨h1, h2, h3, h4⟩
   ·refine .inl ⟨h1, fun k hk => ?_⟩
    rcases List.mem_append.1 hk with hk | hk
    ·exact h2 k hk
    ·rw [List.mem_singleton.1 hk]; exact hpx
   ·refine .inr ⟨h1, List.mem_append_left _ h2, h3, fun k hk hk2 => ?_⟩
    rcases List.mem_append.1 hk with hk | hk
    ·exact h4 k hk hk2
    ·rw [List.mem_singleton.1 hk, hpx] at hk2; cases hk2
  | true =>
   simp only [Bool.true_and]
   rcases ih with ⟨h1, h2⟩ | ⟨h1, h2, h3, h4⟩
   ·rw [if_pos (by simp; omega)]
    refine .inr ⟨hx, by simp, hpx, fun k hk hk2 => ?_⟩
    rcases List.mem_append.1 hk with hk | hk
    ·rw [h2 k hk] at hk2; cases hk2
    ·rw [List.mem_singleton.1 hk]; omega
   ·by_cases hb : x < b
    ·rw [if_pos (by simp; omega)]
     refine .inr ⟨hx, by simp, hpx, fun k hk hk2 => ?_⟩
     rcases List.mem_append.1 hk with hk | hk
     ·have := h4 k hk hk2; omega
     ·rw [List.mem_singleton.1 hk]; omega
    ·rw [if_neg (by simp; omega)]
     refine .inr ⟨h1, List.mem_append_left _ h2, h3, fun k hk hk2 => ?_⟩
     rcases List.mem_append.1 hk with hk | hk
     ·exact h4 k hk hk2
     ·rw [List.mem_singleton.1 hk]; omega) l [] (-1) (fun _ => .inl ⟨rfl, fun k hk => (by cases hk)⟩)
 rw [List.nil_append] at key
 rcases key hl with ⟨_, h2⟩ | ⟨_, h2, h3, h4⟩
 ·obtain ⟨k, hk, hp⟩ := he
  rw [h2 k hk] at hp
  cases hp
 ·exact ⟨h2, h3, h4⟩
def srcW (left : List Int) (l : List Int) : Int := l.foldl (fun best i => if decide (0 ≤ (getI left i).getD 0) && (decide (best < 0) || decide ((getI left i).getD 0 < (getI left best).getD 0)) then i else best) (-1)
theorem srcW_ok {left l : List Int} {n : Int} (hl : ∀ k ∈ l, 0 ≤ k) (hr : ∀ (i j : Nat) (x y : Int), i < j → l[i]? = some x → l[j]? = some y → x < y) (hn : 0 ≤ n) (hb : ∀ k ∈ l, 0 ≤ (getI left k).getD 0 → n ≤ (getI left k).getD 0) (he : ∃ k ∈ l, (getI left k).getD 0 = n) :
  srcW left l ∈ l ∧ (getI left (srcW left l)).getD 0 = n ∧ ∀ k ∈ l, (getI left k).getD 0 = n → srcW left l ≤ k := by
 have key := fold_inv (fun best i => if decide (0 ≤ (getI left i).getD 0) && (decide (best < 0) || decide ((getI left i).getD 0 < (getI left best).getD 0)) then i else best)
  (fun pre best => (∃ post, l = pre ++ post) → ((best = -1 ∧ ∀ k ∈ pre, (getI left k).getD 0 < 0) ∨ (0 ≤ best ∧ best ∈ pre ∧ 0 ≤ (getI left best).getD 0 ∧ (∀ k ∈ pre, 0 ≤ (getI left k).getD 0 → (getI left best).getD 0 ≤ (getI left k).getD 0) ∧ ∀ k ∈ pre, (getI left k).getD 0 = (getI left best).getD 0 → best ≤ k))) (fun pre x b ih hp => by
  obtain ⟨post, hp⟩ := hp
  have ih := ih ⟨x :: post, by simpa using hp⟩
  have hx := hl x (by rw [hp]; simp)
  have hlt : ∀ k ∈ pre, k < x := fun k hk => by
   obtain ⟨i, hi, hix⟩ := List.mem_iff_getElem.1 hk
   refine hr i pre.length k x hi ?_ ?_
   ·rw [hp, List.append_assoc, List.getElem?_append_left hi, List.getElem?_eq_getElem hi, hix]
   ·rw [hp]; simp
  by_cases h0 : 0 ≤ (getI left x).getD 0
  ·rcases ih with ⟨h1, h2⟩ | ⟨h1, h2, h3, h4, h5⟩
   ·rw [if_pos (by simp [h0]; omega)]
    refine .inr ⟨hx, by simp, h0, fun k hk hk2 => ?_, fun k hk hk2 => ?_⟩
    ·rcases List.mem_append.1 hk with hk | hk
     ·have := h2 k hk; omega
     ·rw [List.mem_singleton.1 hk]; omega
    ·rcases List.mem_append.1 hk with hk | hk
     ·have := h2 k hk; omega
     ·rw [List.mem_singleton.1 hk]; omega
   ·by_cases hb : (getI left x).getD 0 < (getI left b).getD 0
    ·rw [if_pos (by simp [h0, hb])]
     refine .inr ⟨hx, by simp, h0, fun k hk hk2 => ?_, fun k hk hk2 => ?_⟩
     ·rcases List.mem_append.1 hk with hk | hk
      ·have := h4 k hk hk2; omega
      ·rw [List.mem_singleton.1 hk]; omega
     ·rcases List.mem_append.1 hk with hk | hk
      ·have := h4 k hk (by omega); omega
      ·rw [List.mem_singleton.1 hk]; omega
    ·rw [if_neg (by simp [hb]; omega)]
     refine .inr ⟨h1, List.mem_append_left _ h2, h3, fun k hk hk2 => ?_, fun k hk hk2 => ?_⟩
     ·rcases List.mem_append.1 hk with hk | hk
      ·exact h4 k hk hk2
      ·rw [List.mem_singleton.1 hk]; omega
     ·rcases List.mem_append.1 hk with hk | hk
      ·exact h5 k hk hk2
      ·rw [List.mem_singleton.1 hk]; have := hlt b h2; omega
  ·rw [if_neg (by simp; omega)]
   rcases ih with ⟨h1, h2⟩ | ⟨h1, h2, h3, h4, h5⟩
   ·refine .inl ⟨h1, fun k hk => ?_⟩
    rcases List.mem_append.1 hk with hk | hk
    ·exact h2 k hk
    ·rw [List.mem_singleton.1 hk]; omega
   ·refine .inr ⟨h1, List.mem_append_left _ h2, h3, fun k hk hk2 => ?_, fun k hk hk2 => ?_⟩
    ·rcases List.mem_append.1 hk with hk | hk
     ·exact h4 k hk hk2
     ·rw [List.mem_singleton.1 hk] at hk2; omega
    ·rcases List.mem_append.1 hk with hk | hk
     ·exact h5 k hk hk2
     ·rw [List.mem_singleton.1 hk] at hk2; omega) l [] (-1) (fun _ => .inl ⟨rfl, fun k hk => (by cases hk)⟩)
 rw [List.nil_append] at key
 rcases key ⟨[], by simp⟩ with ⟨_, h2⟩ | ⟨_, h2, h3, h4, h5⟩
 ·obtain ⟨k, hk, hp⟩ := he
  have := h2 k hk
  omega
 ·obtain ⟨k, hk, hp⟩ := he
  have h6 := h4 k hk (by omega)
  have h7 := hb _ h2 h3
  have h8 : (getI left (srcW left l)).getD 0 = n := by unfold srcW; omega
  refine ⟨h2, h8, fun j hj hjn => h5 j hj ?_⟩
  unfold srcW at h8
  rw [hjn, h8]
def nxtW (m : DMap) (left : List Int) (a : Int) : Int := minW (fun k => (getI left k).getD 0 == (getI left a).getD 0 - 1) (nbL m a)
def seqW (m : DMap) (left : List Int) (a : Int) : Nat → Int
 | 0 => a
 | t + 1 => nxtW m left (seqW m left a t)
def pathW (m : DMap) (left : List Int) (a : Int) (n : Nat) : List Int := (List.range (n + 1)).map (seqW m left a)
theorem getD_some {l : List Int} {k : Int} (h0 : 0 ≤ k) (h1 : k < l.length) : getI l k = some ((getI l k).getD 0) := by
 obtain ⟨x, hx⟩ := getI_ex (l := l) h0 h1
 rw [hx]
 rfl
theorem nb_area {m : DMap} {i k : Int} (h0 : 0 < m.Width) (h1 : 0 < m.Height) (hk : k ∈ nbL m i) : 0 ≤ k ∧ k < m.Width * m.Height := by
 obtain ⟨k0, d, _, rfl, _⟩ := nb_step hk
 exact ⟨k0, nextL_area h0 h1 i d⟩
structure WayOk (m : DMap) (op : List Bool) (src : List Int) (a n : Int) : Prop where
 o : MapO m op
 h : 0 < m.Height
 s : ∀ k ∈ src, 0 ≤ k ∧ k < op.length
 r : ∀ (i j : Nat) (x y : Int), i < j → src[i]? = some x → src[j]? = some y → x < y
 f : getI (spreadL m op src) a = some n
 n0 : 0 ≤ n
def w0 (m : DMap) (op : List Bool) (src : List Int) (a : Int) : Int := srcW (spreadL m op [a]) src
def wS (m : DMap) (op : List Bool) (src : List Int) (a : Int) (t : Nat) : Int := seqW m (spreadL m op [a]) (w0 m op src a) t
theorem WayOk.start {m : DMap} {op : List Bool} {src : List Int} {a n : Int} (w : WayOk m op src a n) : w0 m op src a ∈ src ∧ getI (spreadL m op [a]) (w0 m op src a) = some n ∧ ∀ k ∈ src, (getI (spreadL m op [a]) k).getD 0 = n → w0 m op src a ≤ k := by
 have hk : ∀ k ∈ src, getI (spreadL m op [a]) k = some ((getI (spreadL m op [a]) k).getD 0) := fun k hk => getD_some (w.s k hk).1 (by rw [spread_len]; exact (w.s k hk).2)
 have := srcW_ok (left := spreadL m op [a]) (l := src) (n := n) (fun k hk => (w.s k hk).1) w.r w.n0 (fun k h1 h2 => by
  have h3 := hk k h1
  have ho := far_open h3 h2
  obtain ⟨q, q1, q2, q3⟩ := far_sum w.o (far_zero (m := m) h1 ho) (by omega) h3 h2
  rw [w.f] at q1
  cases q1
  omega) (by
  obtain ⟨s, h1, h2⟩ := far_start w.o w.f w.n0
  exact ⟨s, h1, by rw [h2]; rfl⟩)
 refine ⟨this.1, ?_, this.2.2⟩
 have h1 := hk _ this.1
 rw [this.2.1] at h1
 exact h1
theorem WayOk.step {m : DMap} {op : List Bool} {src : List Int} {a n : Int} (w : WayOk m op src a n) {j : Int} {t : Nat} (ht : (t : Int) < n) (h1 : getI (spreadL m op [a]) j = some (n - t)) (h2 : getI (spreadL m op src) j = some (t : Int)) :
  nxtW m (spreadL m op [a]) j ∈ nbL m j ∧ getI (spreadL m op [a]) (nxtW m (spreadL m op [a]) j) = some (n - (t + 1 : Nat)) ∧ getI (spreadL m op src) (nxtW m (spreadL m op [a]) j) = some ((t + 1 : Nat) : Int)
   ∧ ∀ k ∈ nbL m j, (getI (spreadL m op [a]) k).getD 0 = n - (t + 1 : Nat) → nxtW m (spreadL m op [a]) j ≤ k := by
 obtain ⟨c, hc, hcv⟩ := far_next w.o h1 (by omega)
 have hm := minW_ok (p := fun k => (getI (spreadL m op [a]) k).getD 0 == (getI (spreadL m op [a]) j).getD 0 - 1) (l := nbL m j) (fun k hk => (nb_area w.o.w w.h hk).1) ⟨c, hc, by rw [hcv, h1]; simp⟩
 obtain ⟨m1, m2, m3⟩ := hm
 change nxtW m (spreadL m op [a]) j ∈ nbL m j at m1
 have ha := nb_area w.o.w w.h m1
 have hn := w.o.n
 have hv := getD_some (l := spreadL m op [a]) ha.1 (by rw [spread_len]; omega)
 have m2 : (getI (spreadL m op [a]) (nxtW m (spreadL m op [a]) j)).getD 0 = (getI (spreadL m op [a]) j).getD 0 - 1 := eq_of_beq m2
 rw [h1] at m2
 have m2 : (getI (spreadL m op [a]) (nxtW m (spreadL m op [a]) j)).getD 0 = n - (t + 1 : Nat) := by rw [m2]; simp only [Option.getD_some]; omega
 rw [m2] at hv
 have ho := far_open hv (by omega)
 obtain ⟨v, v1, v2, v3⟩ := far_edge h2 (by omega) m1 ho
 obtain ⟨q, q1, q2, q3⟩ := far_sum w.o v1 v2 hv (by omega)
 rw [w.f] at q1
 cases q1
 have : v = ((t + 1 : Nat) : Int) := by omega
 refine ⟨m1, hv, this ▸ v1, fun k hk hk2 => m3 k hk ?_⟩
 rw [h1, hk2]
 simp only [Option.getD_some, beq_iff_eq]
 omega
theorem WayOk.seq {m : DMap} {op : List Bool} {src : List Int} {a n : Int} (w : WayOk m op src a n) : ∀ t : Nat, (t : Int) ≤ n → getI (spreadL m op [a]) (wS m op src a t) = some (n - t) ∧ getI (spreadL m op src) (wS m op src a t) = some (t : Int)
 | 0, _ => by
  obtain ⟨h1, h2, _⟩ := w.start
  refine ⟨by show getI _ (w0 m op src a) = _; rw [h2]; simp, ?_⟩
  exact far_zero h1 (far_open h2 w.n0)
 | t + 1, ht => by
  obtain ⟨h1, h2⟩ := w.seq t (by omega)
  obtain ⟨_, s2, s3, _⟩ := w.step (by omega) h1 h2
  exact ⟨s2, s3⟩
theorem WayOk.nb {m : DMap} {op : List Bool} {src : List Int} {a n : Int} (w : WayOk m op src a n) {t : Nat} (ht : (t : Int) < n) : wS m op src a (t + 1) ∈ nbL m (wS m op src a t) := by
 obtain ⟨h1, h2⟩ := w.seq t (by omega)
 exact (w.step ht h1 h2).1
theorem WayOk.self {m : DMap} {op : List Bool} {src : List Int} {a n : Int} (w : WayOk m op src a n) : getI (spreadL m op [a]) a = some 0 := far_zero (by simp) (far_open w.f w.n0)
theorem WayOk.more {m : DMap} {op : List Bool} {src : List Int} {a n : Int} (w : WayOk m op src a n) {t : Nat} (ht : (t : Int) < n) : wS m op src a t ≠ a := fun h => by
 have h1 := (w.seq t (by omega)).1
 rw [h, w.self] at h1
 have := Option.some.inj h1
 omega
theorem WayOk.end_ {m : DMap} {op : List Bool} {src : List Int} {a n : Int} (w : WayOk m op src a n) : wS m op src a n.toNat = a := by
 have hn := w.n0
 have h1 := (w.seq n.toNat (by omega)).1
 rw [show n - (n.toNat : Int) = 0 by omega] at h1
 simpa using zero_src h1
def wayW (m : DMap) (op : List Bool) (src : List Int) (a n : Int) : List Int := pathW m (spreadL m op [a]) (w0 m op src a) n.toNat
theorem wayW_get {m : DMap} {op : List Bool} {src : List Int} {a n : Int} {t : Nat} (ht : t ≤ n.toNat) : (wayW m op src a n)[t]? = some (wS m op src a t) := by
 unfold wayW pathW
 rw [List.getElem?_map, List.getElem?_range (by omega)]
 rfl
theorem wayW_len (m : DMap) (op : List Bool) (src : List Int) (a n : Int) : (wayW m op src a n).length = n.toNat + 1 := by simp [wayW, pathW]
theorem WayOk.ok {m : DMap} {op : List Bool} {src : List Int} {a n : Int} (w : WayOk m op src a n) (t : Nat) : okAt m op (wayW m op src a n) t = true := by
 have hn := w.n0
 unfold okAt
 by_cases ht : t ≤ n.toNat
 ·rw [wayW_get ht]
  have h1 := (w.seq t (by omega)).1
  dsimp only
  rw [far_open h1 (by omega)]
  cases t with
  | zero => rfl
  | succ t =>
   have := w.nb (t := t) (by omega)
   have hg : (wayW m op src a n).getD t 0 = wS m op src a t := by rw [List.getD_eq_getElem?_getD, wayW_get (by omega)]; rfl
   rw [show t + 1 - 1 = t by omega, hg]
   simp [this]
 ·rw [List.getElem?_eq_none (by rw [wayW_len]; omega)]
theorem getI_setB {l : List Bool} {k i : Int} {z : Bool} (h0 : 0 ≤ k) (h1 : k < l.length) : getI (l.set k.toNat z) i = if i = k then some z else getI l i := by
 unfold getI
 by_cases hi : 0 ≤ i
 ·rw [if_pos hi, if_pos hi, List.getElem?_set]
  by_cases hik : i = k
  ·subst hik
   rw [if_pos rfl, if_pos rfl, if_pos (by omega)]
  ·rw [if_neg (by omega), if_neg hik]
 ·rw [if_neg hi, if_neg hi, if_neg (by omega)]
theorem WayOk.off {m : DMap} {op : List Bool} {src : List Int} {a n : Int} (w : WayOk m op src a n) {i : Int} (h0 : 0 ≤ i) (h1 : i < op.length) (hi : i ∉ wayW m op src a n) : ∃ v, getI (spreadL m (op.set i.toNat false) src) a = some v ∧ 0 ≤ v ∧ v ≤ n := by
 have hn := w.n0
 have hr : ∀ t : Nat, (t : Int) ≤ n → reachN m (op.set i.toNat false) src t (wS m op src a t) := by
  intro t
  have hop : ∀ t : Nat, (t : Int) ≤ n → getI (op.set i.toNat false) (wS m op src a t) = some true := fun t ht => by
   rw [getI_setB h0 h1, if_neg (fun e => hi (by rw [← e]; exact List.mem_of_getElem? (wayW_get (by omega))))]
   exact far_open (w.seq t ht).1 (by omega)
  induction t with
  | zero => exact fun ht => ⟨w.start.1, hop 0 ht⟩
  | succ t ih => exact fun ht => ⟨_, ih (by omega), w.nb (by omega), hop (t + 1) ht⟩
 have := hr n.toNat (by omega)
 rw [w.end_] at this
 obtain ⟨v, v1, v2, v3⟩ := spread_le this
 exact ⟨v, v1, v2, by omega⟩
end Go.Ev
