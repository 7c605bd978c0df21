/-
  C2: one of the texts behind a proof of laws.FnSupplied: what the functions answer
  Its conditions: none of its own.
-/
import Derived.Test.YtjmdglkjpkpjoaaGreatDoorC1
set_option maxRecDepth 100000
set_option linter.unusedVariables false
set_option linter.unusedSectionVars false
set_option linter.unusedSimpArgs false
set_option linter.unnecessarySimpa false
namespace Go.Ev
open Go Go.Proofs
variable [Inhabited Known]
theorem BI.run {m : DMap} {op : List Bool} {n : Nat} {src : List Int} (hop : op.length = n) : ∀ (f a : Nat) (st : St2), BI n src a st → ∃ A : Int, A ≤ a + f ∧ BI n src A (runB m op f a st)
  | 0, a, st, h => ⟨a, by omega, h⟩
  | f + 1, a, st, h => by
    unfold runB
    split
    · rename_i ha
      obtain ⟨A, h1, h2⟩ := BI.run hop f (a + 1) _ (h.step (m := m) hop ha).1
      exact ⟨A, by omega, h2⟩
    · exact ⟨a, by omega, h⟩
theorem seed_ok {op : List Bool} {n : Nat} {src : List Int} {st : St2} (hop : op.length = n) (h : BI n src 0 st) {i : Int} (hi : i ∈ src) : BI n src 0 (seedB op st i) ∧ totB (seedB op st i) ≤ totB st + 1 := by
  unfold seedB
  split
  · rename_i ho
    cases hg : getI op i with
    | none => rw [hg] at ho; cases ho
    | some b =>
      obtain ⟨j, hj, hx, hl⟩ := getI_some hg
      subst hj
      have h0 : (0 : Int) ≤ (j : Int) := by omega
      have h1 : ((j : Nat) : Int) < n := by omega
      refine ⟨⟨by simp [h.len], fun z hm => ?_, fun v hv => ?_, fun k hk => ?_⟩, ?_⟩
      · dsimp only at hm
        rcases List.mem_append.1 hm with hm | hm
        · have := h.idx z hm
          refine ⟨this.1, this.2.1, ?_⟩
          rw [far_set h.len h0 h1 this.1]
          split
          · omega
          · exact this.2.2
        · simp only [List.mem_singleton] at hm
          subst hm
          refine ⟨h0, h1, ?_⟩
          rw [far_set h.len h0 h1 h0, if_pos rfl]
          omega
      · rcases mem_set hv with hv | hv
        · exact h.bnd v hv
        · subst hv; omega
      · dsimp only at hk
        rw [Int.toNat_natCast] at hk
        by_cases hjk : j = k
        · subst hjk; exact hi
        · rw [List.getElem?_set_ne hjk] at hk
          exact h.zero k hk
      · obtain ⟨q, hq, hqx, _⟩ := getI_some (far_get h.len h0 h1)
        have hjq : j = q := by omega
        subst hjq
        have := negs_set hqx 0 (by omega)
        unfold totB
        dsimp only
        rw [Int.toNat_natCast, List.length_append]
        simp only [List.length_cons, List.length_nil]
        split at this <;> omega
  · exact ⟨h, by omega⟩
theorem seeds_ok {op : List Bool} {n : Nat} {src : List Int} (hop : op.length = n) : ∀ (l : List Int) (st : St2), (∀ i ∈ l, i ∈ src) → BI n src 0 st → BI n src 0 (l.foldl (seedB op) st) ∧ totB (l.foldl (seedB op) st) ≤ totB st + l.length
  | [], st, _, h => ⟨h, by simp⟩
  | i :: l, st, hl, h => by
    have h1 := seed_ok hop h (hl i (by simp))
    have h2 := seeds_ok hop l _ (fun j hj => hl j (by simp [hj])) h1.1
    exact ⟨h2.1, by rw [List.foldl_cons]; have := h1.2; have := h2.2; simp only [List.length_cons]; omega⟩
theorem BI.init (n : Nat) (src : List Int) : BI n src 0 (List.replicate n (-1), []) := by
  refine ⟨by simp, fun i hi => (by cases hi), fun v hv => ?_, fun k hk => ?_⟩
  · have := List.eq_of_mem_replicate hv
    omega
  · rw [List.getElem?_replicate] at hk
    split at hk <;> simp at hk
def seedsL (op : List Bool) (src : List Int) : St2 := src.foldl (seedB op) (List.replicate op.length (-1), [])
/-- How far each place is from the sources. -/
def spreadL (m : DMap) (op : List Bool) (src : List Int) : List Int := (runB m op (totB (seedsL op src)) 0 (seedsL op src)).1
theorem spread_len (m : DMap) (op : List Bool) (src : List Int) : (spreadL m op src).length = op.length := by
  have h := (seeds_ok (op := op) (n := op.length) (src := src) rfl src _ (fun _ h => h) (BI.init op.length src)).1
  obtain ⟨A, _, h⟩ := BI.run (m := m) rfl (totB (seedsL op src)) 0 _ h
  exact h.len
theorem spread_zero (m : DMap) (op : List Bool) (src : List Int) {k : Nat} (hk : (spreadL m op src)[k]? = some 0) : (k : Int) ∈ src := by
  have h := (seeds_ok (op := op) (n := op.length) (src := src) rfl src _ (fun _ h => h) (BI.init op.length src)).1
  obtain ⟨A, _, h⟩ := BI.run (m := m) rfl (totB (seedsL op src)) 0 _ h
  exact h.zero k hk
theorem totB_le (op : List Bool) (src : List Int) : totB (seedsL op src) ≤ op.length + src.length := by
  have h := (seeds_ok (op := op) (n := op.length) (src := src) rfl src _ (fun _ h => h) (BI.init op.length src)).2
  have h2 : totB (List.replicate op.length (-1), []) ≤ op.length := by
    unfold totB
    have := negs_le (List.replicate op.length (-1 : Int))
    simp at this ⊢
    exact this
  unfold seedsL
  omega
/-! supply, plain -/
theorem owner_cases {b : DBoard} {s : DState} (g : StateG b s) (i : Int) : ownerL s.Units i = -1 ∨ ownerL s.Units i = 0 ∨ ownerL s.Units i = 1 := by
  unfold ownerL
  cases hf : s.Units.find? (fun u => u.At == i) with
  | none => exact .inl rfl
  | some z =>
    right
    exact unit_side (g.u z (List.mem_of_find?_eq_some hf))
def blockedL (b : DBoard) (us : List DUnit) (side i : Int) : Bool := ownerL us i == 1 - side || (ownerL us i != side && inZoneL b us (1 - side) i)
def openAt (b : DBoard) (us : List DUnit) (side kind i : Int) : Bool := decide (costL b kind i ≠ 0) && !blockedL b us side i
def openL (b : DBoard) (us : List DUnit) (side kind : Int) : List Bool := (List.range b.Map.Terrain.length).map fun (i : Nat) => openAt b us side kind i
def wayL (b : DBoard) (us : List DUnit) (src : List Int) (u : DUnit) : Int :=
  if u.At < 0 then -1 else if b.Rules.Supply < (getI (spreadL b.Map (openL b us u.Side u.Kind) src) u.At).getD 0 then -1 else (getI (spreadL b.Map (openL b us u.Side u.Kind) src) u.At).getD 0
def zU : DUnit := ⟨0, 0, 0, 0⟩
def loseF (c : DUnit → Bool) (us w : List DUnit) (k : Int) : List DUnit := if c ((getI us k).getD zU) then w.set k.toNat (loseU ((getI w k).getD zU) 1) else w
theorem loseF_len (c : DUnit → Bool) (us w : List DUnit) (k : Int) : (loseF c us w k).length = w.length := by unfold loseF; split <;> simp
def onSide (side : Int) (u : DUnit) : Bool := u.Side == side && decide (0 ≤ u.At)
def hitU (c : DUnit → Bool) (side : Int) (u : DUnit) : DUnit := if onSide side u && c u then loseU u 1 else u
theorem lose_map (c : DUnit → Bool) (us : List DUnit) (side : Int) : (ofL us side).foldl (loseF c us) us = us.map (hitU c side) := by
  have key : ∀ (rest pre : List DUnit), us = pre ++ rest → (colN (fun _ u => u.Side == side && decide (0 ≤ u.At)) (fun k _ => (k : Int)) pre.length rest).foldl (loseF c us) (pre.map (hitU c side) ++ rest) = us.map (hitU c side) := by
    intro rest
    induction rest with
    | nil => intro pre h; rw [List.append_nil] at h; subst h; simp [colN]
    | cons x rest ih =>
      intro pre h
      have h2 := ih (pre ++ [x]) (by simpa using h)
      rw [List.length_append, List.length_cons, List.length_nil, List.map_append] at h2
      unfold colN
      have hx : getI us (pre.length : Int) = some x := by rw [getI_nat, h]; simp
      have hw : getI (pre.map (hitU c side) ++ x :: rest) (pre.length : Int) = some x := by rw [getI_nat]; simp
      by_cases hp : (x.Side == side && decide (0 ≤ x.At)) = true
      · rw [if_pos hp, List.foldl_cons]
        have e : loseF c us (pre.map (hitU c side) ++ x :: rest) (pre.length : Int) = pre.map (hitU c side) ++ [x].map (hitU c side) ++ rest := by
          unfold loseF
          rw [hx, hw]
          simp only [Option.getD_some, Int.toNat_natCast]
          cases hc : c x with
          | true =>
            have : hitU c side x = loseU x 1 := by unfold hitU onSide; rw [hp, hc]; rfl
            rw [if_pos rfl, List.map_cons, this]
            simp
          | false =>
            have : hitU c side x = x := by unfold hitU; rw [hc, Bool.and_false]; rfl
            rw [if_neg (by simp), List.map_cons, this]
            simp
        rw [e]
        exact h2
      · have : hitU c side x = x := by unfold hitU onSide; rw [Bool.not_eq_true] at hp; rw [hp, Bool.false_and]; rfl
        rw [if_neg hp]
        have e : pre.map (hitU c side) ++ x :: rest = pre.map (hitU c side) ++ [x].map (hitU c side) ++ rest := by rw [List.map_cons, this]; simp
        rw [e]
        exact h2
  exact key us [] rfl
theorem lose_one {u : DUnit} (h : 1 ≤ u.Steps) (h4 : u.Steps ≤ 100) : loseU u 1 = if u.Steps = 1 then { u with Steps := 0, At := -1 } else { u with Steps := u.Steps - 1 } := by
  unfold loseU
  rw [wrap_id (by omega) (by omega), if_neg (show ¬ u.Steps - 1 < 0 by omega)]
  by_cases h1 : u.Steps = 1
  · rw [if_pos h1, if_pos (by omega)]
  · rw [if_neg h1, if_neg (by omega)]
/-- A unit on the map has a step. -/
theorem on_steps {b : DBoard} {s : DState} (g : StateG b s) {u : DUnit} (hu : u ∈ s.Units) (h0 : 0 ≤ u.At) : 1 ≤ u.Steps ∧ u.Steps ≤ 4 := by
  have h1 := kind_get g.bg (g.u u hu)
  have h2 := unit_steps (g.u u hu)
  have h4 := unit_place (g.u u hu) h0
  omega
theorem hit_side (c : DUnit → Bool) (side : Int) (u : DUnit) : (hitU c side u).Side = u.Side ∧ (hitU c side u).Kind = u.Kind ∧ ((hitU c side u).At = u.At ∨ (hitU c side u).At = -1) := by
  unfold hitU
  split
  · unfold loseU
    generalize (if IntKind.wrap .i64 (u.Steps - 1) < 0 then 0 else IntKind.wrap .i64 (u.Steps - 1)) = m
    split <;> first | exact ⟨rfl, rfl, .inl rfl⟩ | exact ⟨rfl, rfl, .inr rfl⟩
  · exact ⟨rfl, rfl, .inl rfl⟩
theorem cnt_hit (c : DUnit → Bool) (side : Int) {a : Int} (ha : 0 ≤ a) (t : Int) : ∀ us : List DUnit, cnt (us.map (hitU c side)) a t ≤ cnt us a t
  | [] => Nat.le_refl _
  | u :: us => by
    have ih := cnt_hit c side ha t us
    have h := hit_side c side u
    unfold cnt at *
    rw [List.map_cons, List.filter_cons, List.filter_cons, h.1]
    rcases h.2.2 with h | h
    · rw [h]; split <;> (try simp only [List.length_cons]) <;> omega
    · rw [h, if_neg (by simp; omega)]; split <;> (try simp only [List.length_cons]) <;> omega
theorem game_hit {b : DBoard} {s : DState} (c : DUnit → Bool) (side : Int) (hg : gameB b s = true) (hn : BoardN b) : gameB b ⟨s.Turn, s.Weather, s.Units.map (hitU c side)⟩ = true := by
  have g := StateG.ofB hg hn
  unfold gameB at hg ⊢
  rw [Bool.and_eq_true] at hg ⊢
  refine ⟨hg.1, ?_⟩
  have hs := hg.2
  unfold stateB at hs ⊢
  simp only [Bool.and_eq_true, List.all_eq_true, List.length_map] at hs ⊢
  refine ⟨hs.1, hs.2.1, hs.2.2.1, fun u hu => ?_, fun u hu => ?_⟩
  · obtain ⟨x, hx, rfl⟩ := List.mem_map.1 hu
    have hb := hs.2.2.2.1 x hx
    by_cases hc : (onSide side x && c x) = true
    · have hat : 0 ≤ x.At := by
        rw [Bool.and_eq_true] at hc
        have := hc.1
        unfold onSide at this
        simp only [Bool.and_eq_true, decide_eq_true_eq] at this
        exact this.2
      have hst := on_steps g hx hat
      unfold hitU
      rw [if_pos hc, lose_one hst.1 (by omega)]
      unfold unitB at hb ⊢
      simp only [Bool.and_eq_true, Bool.or_eq_true, decide_eq_true_eq, inB_iff, beq_iff_eq] at hb ⊢
      split
      · exact ⟨hb.1, hb.2.1, by dsimp only; omega, .inl rfl⟩
      · refine ⟨hb.1, hb.2.1, by dsimp only; omega, hb.2.2.2.imp id fun q => ⟨by dsimp only; omega, q.2⟩⟩
    · unfold hitU
      rw [if_neg hc]
      exact hb
  · obtain ⟨x, hx, rfl⟩ := List.mem_map.1 hu
    have hp := hs.2.2.2.2 x hx
    have h := hit_side c side x
    unfold placedB at hp ⊢
    simp only [Bool.or_eq_true, Bool.and_eq_true, decide_eq_true_eq] at hp ⊢
    rw [h.1]
    rcases h.2.2 with h | h
    · rw [h]
      rcases hp with hp | hp
      · exact .inl hp
      · by_cases h0 : x.At < 0
        · exact .inl h0
        · have a1 := cnt_hit c side (a := x.At) (by omega) (1 - x.Side) s.Units
          have a2 := cnt_hit c side (a := x.At) (by omega) x.Side s.Units
          exact .inr ⟨by omega, by omega⟩
    · rw [h]; exact .inl (by omega)
def stepOn (t : Int) (u : DUnit) : Int := if 0 ≤ u.At ∧ u.Side = t then u.Steps else 0
def cntC (c : DUnit → Bool) (side : Int) (us : List DUnit) : Int := ((us.filter fun u => onSide side u && c u).length : Int)
theorem steps_hit {b : DBoard} {s : DState} (g : StateG b s) (c : DUnit → Bool) (side : Int) : ∀ us : List DUnit, (∀ u ∈ us, u ∈ s.Units) →
    sumI (stepOn 0) us + sumI (stepOn 1) us - sumI (stepOn 0) (us.map (hitU c side)) - sumI (stepOn 1) (us.map (hitU c side)) = cntC c side us
  | [], _ => by simp [sumI, cntC]
  | u :: us, hm => by
    have ih := steps_hit g c side us fun x hx => hm x (by simp [hx])
    have hu := hm u (by simp)
    have hs := unit_side (g.u u hu)
    unfold cntC at *
    rw [List.filter_cons]
    by_cases hc : (onSide side u && c u) = true
    · have hat : 0 ≤ u.At := by
        rw [Bool.and_eq_true] at hc
        have := hc.1
        unfold onSide at this
        simp only [Bool.and_eq_true, decide_eq_true_eq] at this
        exact this.2
      have hst := on_steps g hu hat
      have he : hitU c side u = if u.Steps = 1 then { u with Steps := 0, At := -1 } else { u with Steps := u.Steps - 1 } := by
        unfold hitU; rw [if_pos hc, lose_one hst.1 (by omega)]
      have e : stepOn 0 u + stepOn 1 u - stepOn 0 (hitU c side u) - stepOn 1 (hitU c side u) = 1 := by
        rw [he]
        by_cases h1 : u.Steps = 1
        · rw [if_pos h1]
          unfold stepOn
          rcases hs with hs | hs <;> simp [hs, hat, h1]
        · rw [if_neg h1]
          unfold stepOn
          rcases hs with hs | hs <;> simp [hs, hat] <;> omega
      rw [if_pos hc]
      simp only [List.map_cons, sumI, List.length_cons] at ih ⊢
      omega
    · have he : hitU c side u = u := by unfold hitU; rw [if_neg hc]
      rw [if_neg hc]
      simp only [List.map_cons, sumI, he] at ih ⊢
      omega
theorem cnt_of (c : DUnit → Bool) (us : List DUnit) (side : Int) : (((ofL us side).filter fun k => c ((getI us k).getD zU)).length : Int) = cntC c side us := by
  have key : ∀ (rest pre : List DUnit), us = pre ++ rest → ((colN (fun _ u => u.Side == side && decide (0 ≤ u.At)) (fun k _ => (k : Int)) pre.length rest).filter fun k => c ((getI us k).getD zU)).length = (rest.filter fun u => onSide side u && c u).length := by
    intro rest
    induction rest with
    | nil => intro pre h; simp [colN]
    | cons x rest ih =>
      intro pre h
      have h2 := ih (pre ++ [x]) (by simpa using h)
      rw [List.length_append, List.length_cons, List.length_nil] at h2
      unfold colN
      have hx : getI us (pre.length : Int) = some x := by rw [getI_nat, h]; simp
      rw [List.filter_cons]
      unfold onSide at *
      by_cases hp : (x.Side == side && decide (0 ≤ x.At)) = true
      · rw [if_pos hp, List.filter_cons, hx, hp]
        simp only [Option.getD_some, Bool.true_and]
        split <;> simp [h2]
      · rw [if_neg hp]
        rw [Bool.not_eq_true] at hp
        rw [hp, h2]
        simp
  unfold cntC
  exact congrArg Nat.cast (key us [] rfl)
theorem mem_of {us : List DUnit} {side k : Int} (h : k ∈ ofL us side) : ∃ (n : Nat) (u : DUnit), k = n ∧ us[n]? = some u ∧ getI us k = some u ∧ onSide side u = true := by
  unfold ofL at h
  obtain ⟨n, u, h1, h2, h3⟩ := mem_colI.1 h
  exact ⟨n, u, h3.symm, h1, by rw [← h3, getI_nat]; exact h1, h2⟩
/-! breadth first, walked -/
theorem foldN_const {α β : Type} (f : β → α → β) : ∀ (l : List α) (n : Nat) (b : β), foldN (fun _ b x => f b x) n b l = l.foldl f b
  | [], _, _ => rfl
  | x :: l, n, b => by unfold foldN; rw [List.foldl_cons]; exact foldN_const f l (n + 1) (f b x)
theorem nb_col (m : DMap) (i : Int) : colI (fun _ d => decide (0 ≤ nextL m i d)) (fun _ d => nextL m i d) dl = nbL m i := by
  have key : ∀ (l : List Int) (n : Nat), colN (fun _ d => decide (0 ≤ nextL m i d)) (fun _ d => nextL m i d) n l = (l.map (nextL m i)).filter fun k => decide (0 ≤ k) := by
    intro l
    induction l with
    | nil => intro n; rfl
    | cons x l ih =>
      intro n
      unfold colN
      rw [List.map_cons, List.filter_cons, ih]
  exact key dl 0
theorem fold_nb (m : DMap) (i : Int) (f : St2 → Int → St2) (st : St2) : dl.foldl (fun st d => if 0 ≤ nextL m i d then f st (nextL m i d) else st) st = (nbL m i).foldl f st := by
  unfold nbL
  rw [List.foldl_filter, List.foldl_map]
  simp only [decide_eq_true_eq]
theorem c_impl_neighboursOn (m : DMap) (i : Int) (hm : MapB m) (hi : sm i) : A_impl_neighboursOn m i = some (en_impl_neighboursOn (nbL m i)) := by
  apply e_impl_neighboursOn
  unfold P_impl_neighboursOn
  rw [← nb_col]
  refine col_loop (fun k acc => L_impl_neighboursOn_L3 acc m i k) dl (fun _ d => decide (0 ≤ nextL m i d)) (fun _ d => nextL m i d) (fun acc => some (en_impl_neighboursOn acc)) ?_ (fun k x acc hx hk ha => ?_) _ rfl
  · intro acc ha _ h; apply e_impl_neighboursOn_L3; unfold P_impl_neighboursOn_L3
    rw [if_neg (by simp [dl]), give_at ok_cI rfl, ← h]
    rfl
  · intro _ h; apply e_impl_neighboursOn_L3; unfold P_impl_neighboursOn_L3
    obtain ⟨rfl, h6⟩ := dl_get hx
    rw [if_pos (by simp; omega), k_impl_nextTo _ _ _ (c_impl_nextTo _ _ _ hm hi (by omega) (by omega)), wrap_id (by omega) (by omega)]
    by_cases hn : 0 ≤ nextL m i k
    · rw [if_pos (by simpa using hn)] at h ⊢
      rw [apR_eq rt_cI rfl (xs := [nextL m i k]) (Src.row (n := 1) ok_cI rfl rfl) rfl rfl (by simp; omega) (by simp; omega) rfl]
      exact h
    · rw [if_neg (by simpa using hn)] at h ⊢
      exact h
theorem fill_set {α : Type} (x z : α) (i k : Nat) : (List.replicate i x ++ List.replicate (k + 1) z).set i x = List.replicate (i + 1) x ++ List.replicate k z := by
  rw [List.set_append_right _ _ (by simp), List.length_replicate, Nat.sub_self, List.replicate_succ, List.set_cons_zero, List.replicate_succ' (n := i), List.append_assoc]
  rfl
theorem fill_get {α : Type} (x z : α) (i k : Nat) : (List.replicate i x ++ List.replicate (k + 1) z)[i]? = some z := by
  rw [List.getElem?_append_right (by simp), List.length_replicate, Nat.sub_self, List.replicate_succ]
  rfl
theorem seed_get {op : List Bool} {st : St2} {i : Int} {o : Bool} (h : getI op i = some o) : seedB op st i = if o = true then (st.1.set i.toNat 0, st.2 ++ [i]) else st := by
  unfold seedB
  rw [h]
  rfl
theorem visit_get {op : List Bool} {d : Int} {st : St2} {k : Int} {o : Bool} (h : getI op k = some o) : visitB op d st k = if o = true then (if farL st k < 0 then (st.1.set k.toNat (d + 1), st.2 ++ [k]) else st) else st := by
  unfold visitB farL
  rw [h]
  cases o with
  | false => simp
  | true => simp
structure SpreadOk (m : DMap) (op : List Bool) (src : List Int) : Prop where
  n : (op.length : Int) = m.Width * m.Height
  w : 0 < m.Width ∧ 0 < m.Height
  l : op.length ≤ 100
  s : ∀ i ∈ src, 0 ≤ i ∧ i < op.length
  q : src.length ≤ 20
  b : MapB m
theorem SpreadOk.nb {m : DMap} {op : List Bool} {src : List Int} (h : SpreadOk m op src) {i k : Int} (hk : k ∈ nbL m i) : 0 ≤ k ∧ k < op.length := by
  unfold nbL at hk
  rw [List.mem_filter, List.mem_map] at hk
  obtain ⟨⟨d, _, rfl⟩, h0⟩ := hk
  have := nextL_area h.w.1 h.w.2 i d
  have := h.n
  exact ⟨by simpa using h0, by omega⟩
theorem l_impl_spread_L15 {m : DMap} {op : List Bool} {src : List Int} (ok : SpreadOk m op src) : ∀ (f a : Nat) (st : St2), totB st ≤ a + f → a + f ≤ 500 → BI op.length src a st →
    L_impl_spread_L15 st.1 st.2 m op 0 op.length op.length a = some (en_impl_spread (runB m op f a st).1) := by
  intro f
  induction f with
  | zero =>
    intro a st ht hf hb
    apply e_impl_spread_L15
    unfold P_impl_spread_L15
    have : st.2.length ≤ totB st := by unfold totB; omega
    rw [if_neg (by simp; omega), ← hb.len, give_at ok_cI rfl]
    rfl
  | succ f ih =>
    intro a st ht hf hb
    apply e_impl_spread_L15
    unfold P_impl_spread_L15 runB
    by_cases ha : a < st.2.length
    · obtain ⟨h0, h1, h2, h3, h4⟩ := hb.start ha
      have hq : st.2[a]? = some (quL st a) := by unfold quL; rw [List.getD_eq_getElem?_getD, List.getElem?_eq_getElem ha]; rfl
      have hl := ok.l
      rw [if_pos (by simpa using ha), if_pos ha, oxA_at rt_cI rfl ha]
      refine (ld_at (E := tI) rfl rfl ok_cI (fun _ => rfl) (l := st.2) rfl rfl hq _).trans ?_
      rw [k_impl_neighboursOn _ _ (c_impl_neighboursOn _ _ ok.b (by unfold sm; omega))]
      have hst := hb.step (m := m) rfl ha
      have nx := ih (a + 1) (stepB m op a st) (by omega) (by omega) hst.1
      refine fold_loop (fun j (w : St2) => L_impl_spread_L18 w.1 w.2 m op 0 op.length op.length a (nbL m (quL st a)) (nbL m (quL st a)).length j) (nbL m (quL st a)) (fun _ w k => visitB op (farL st (quL st a)) w k)
        (fun (_ : Nat) (w : St2) => BJ op.length src ((a : Int) + 1) (farL st (quL st a)) (quL st a) (totB st) a w) (fun w => L_impl_spread_L15 w.1 w.2 m op 0 op.length op.length ((a + 1 : Nat) : Int)) ?_ ?_ st h4 _ ?_
      · intro w hw r hr
        apply e_impl_spread_L18
        unfold P_impl_spread_L18
        rw [if_neg (by simp), wrap_id (n := (a : Int) + 1) (by omega) (by omega)]
        exact hr
      · intro j k w hk hj hw
        refine ⟨hw.visit rfl h0 h1 h2 (by omega) k, ?_⟩
        intro r hr
        apply e_impl_spread_L18
        unfold P_impl_spread_L18
        have hwl : w.2.length ≤ totB w := by unfold totB; omega
        rw [hw.tot] at hwl
        obtain ⟨k0, k1⟩ := ok.nb (mem_of_get hk)
        obtain ⟨o, ho⟩ := getI_ex (l := op) k0 k1
        rw [visit_get ho] at hr
        have hnb : (nbL m (quL st a)).length ≤ 6 := by unfold nbL; exact List.length_filter_le _ _
        rw [if_pos (by simpa using hj), ixA_at sl_cI rfl hk, ixA_get sl_cB _ _ ho, wrap_id (n := (j : Int) + 1) (by omega) (by omega)]
        cases o with
        | false => rw [if_neg (by simp)] at hr ⊢; exact hr
        | true =>
          rw [if_pos rfl] at hr ⊢
          obtain ⟨q, e, hx, hq2⟩ := getI_some (far_get hw.bi.len k0 k1)
          rw [oxA_at rt_cI (j := q) e (by omega)]
          refine (ld_at (E := tI) rfl rfl ok_cI (fun _ => rfl) (l := w.1) rfl rfl hx _).trans ?_
          by_cases hneg : farL w k < 0
          · rw [if_pos hneg] at hr
            rw [if_pos (by simpa using hneg), oxA_at rt_cI rfl hw.at_.1]
            have hq' : w.2[a]? = some (quL st a) := by rw [← hw.at_.2]; unfold quL; rw [List.getD_eq_getElem?_getD, List.getElem?_eq_getElem hw.at_.1]; rfl
            refine (ld_at (E := tI) rfl rfl ok_cI (fun _ => rfl) (l := w.2) rfl rfl hq' _).trans ?_
            obtain ⟨p, ep, hxp, _⟩ := getI_some (far_get hw.bi.len h0 h1)
            rw [oxA_at rt_cI (j := p) ep (by omega)]
            refine (ld_at (E := tI) rfl rfl ok_cI (fun _ => rfl) (l := w.1) rfl rfl hxp _).trans ?_
            rw [hw.far, wrap_id (n := farL st (quL st a) + 1) (by omega) (by omega), oxA_at rt_cI (j := q) e (by omega), stF (f := 0) (off := q * 1) ok_cI rfl rfl hx rfl (by omega) rfl (y' := farL st (quL st a) + 1) rfl,
              apR_eq rt_cI (l := w.2) (xs := [k]) rfl (Src.row (n := 1) ok_cI rfl rfl) rfl rfl (by simp; omega) (by simp; omega) rfl]
            rw [e, Int.toNat_natCast] at hr
            rw [e]
            exact hr
          · rw [if_neg hneg] at hr
            rw [if_neg (by simpa using hneg)]
            exact hr
      · rw [foldN_const]
        exact nx
    · rw [if_neg (by simpa using ha), if_neg ha, ← hb.len, give_at ok_cI rfl]
      rfl
theorem l_impl_spread_L8 {m : DMap} {op : List Bool} {src : List Int} (ok : SpreadOk m op src) : L_impl_spread_L8 (List.replicate op.length (-1)) [] m op 0 op.length op.length src src.length 0 = some (en_impl_spread (spreadL m op src)) := by
  have hn := ok.l
  have hq := ok.q
  have ht := totB_le op src
  have fin := l_impl_spread_L15 ok (totB (seedsL op src)) 0 (seedsL op src) (by omega) (by omega) (seeds_ok (op := op) (n := op.length) (src := src) rfl src _ (fun _ h => h) (BI.init op.length src)).1
  refine fold_loop (fun j (st : St2) => L_impl_spread_L8 st.1 st.2 m op 0 op.length op.length src src.length j) src (fun _ w k => seedB op w k) (fun j w => w.1.length = op.length ∧ w.2.length ≤ j)
    (fun w => L_impl_spread_L15 w.1 w.2 m op 0 op.length op.length 0) ?_ ?_ (List.replicate op.length (-1), []) ⟨by simp, by simp⟩ _ ?_
  · intro w hw r hr
    apply e_impl_spread_L8
    unfold P_impl_spread_L8
    rw [if_neg (by simp)]
    exact hr
  · intro j k w hk hj hw
    obtain ⟨k0, k1⟩ := ok.s k (mem_of_get hk)
    obtain ⟨o, ho⟩ := getI_ex (l := op) k0 k1
    refine ⟨?_, ?_⟩
    · rw [seed_get ho]
      split
      · simp; omega
      · exact ⟨hw.1, by omega⟩
    · intro r hr
      apply e_impl_spread_L8
      unfold P_impl_spread_L8
      rw [seed_get ho] at hr
      rw [if_pos (by simpa using hj), ixA_at sl_cI rfl hk, ixA_get sl_cB _ _ ho, wrap_id (n := (j : Int) + 1) (by omega) (by omega)]
      cases o with
      | false => rw [if_neg (by simp)] at hr ⊢; exact hr
      | true =>
        rw [if_pos rfl] at hr ⊢
        obtain ⟨q, e, hx, hq2⟩ := getI_some (far_get (st := w) hw.1 k0 k1)
        rw [oxA_at rt_cI (j := q) e (by omega), stF (f := 0) (off := q * 1) ok_cI rfl rfl hx rfl (by omega) rfl (y' := 0) rfl, apR_eq rt_cI (l := w.2) (xs := [k]) rfl (Src.row (n := 1) ok_cI rfl rfl) rfl rfl (by simp; omega) (by simp; omega) rfl]
        rw [e, Int.toNat_natCast] at hr
        rw [e]
        exact hr
  · rw [foldN_const]
    exact fin
theorem l_impl_spread_L3 {m : DMap} {op : List Bool} {src : List Int} (ok : SpreadOk m op src) : ∀ (k i : Nat), i + k = op.length → L_impl_spread_L3 (List.replicate i (-1) ++ List.replicate k 0) [] m op src 0 op.length op.length op.length i = some (en_impl_spread (spreadL m op src)) := by
  have hn := ok.l
  intro k
  induction k with
  | zero =>
    intro i hi
    apply e_impl_spread_L3
    unfold P_impl_spread_L3
    rw [if_neg (by simp; omega), List.replicate_zero, List.append_nil, show i = op.length by omega]
    exact l_impl_spread_L8 ok
  | succ k ih =>
    intro i hi
    apply e_impl_spread_L3
    unfold P_impl_spread_L3
    rw [if_pos (by simp; omega), oxA_at rt_cI rfl (by omega), stF (f := 0) (off := i * 1) ok_cI rfl rfl (fill_get (-1) 0 i k) rfl (by omega) rfl (y' := -1) rfl, fill_set, wrap_id (n := (i : Int) + 1) (by omega) (by omega)]
    exact ih (i + 1) (by omega)
theorem c_impl_spread (m : DMap) (op : List Bool) (src : List Int) (ok : SpreadOk m op src) : A_impl_spread m op src = some (en_impl_spread (spreadL m op src)) := by
  apply e_impl_spread
  unfold P_impl_spread
  have hn := ok.l
  rw [mkA_z rt_cI (z := 0) (by kernel_rfl) rfl (by omega) (by omega) (by omega)]
  have := l_impl_spread_L3 ok op.length 0 (by omega)
  simpa using this
theorem l_spec_jFar_L16 {m : DMap} {op : List Bool} {src : List Int} (ok : SpreadOk m op src) : ∀ (f a : Nat) (st : St2), totB st ≤ a + f → a + f ≤ 500 → BI op.length src a st →
    L_spec_jFar_L16 st.1 st.2 m op 0 op.length op.length a = some (en_spec_jFar (runB m op f a st).1) := by
  intro f
  induction f with
  | zero =>
    intro a st ht hf hb
    apply e_spec_jFar_L16
    unfold P_spec_jFar_L16
    have : st.2.length ≤ totB st := by unfold totB; omega
    rw [if_neg (by simp; omega), ← hb.len, give_at ok_cI rfl]
    rfl
  | succ f ih =>
    intro a st ht hf hb
    apply e_spec_jFar_L16
    unfold P_spec_jFar_L16 runB
    by_cases ha : a < st.2.length
    · obtain ⟨h0, h1, h2, h3, h4⟩ := hb.start ha
      have hl := ok.l
      rw [if_pos (by simpa using ha), if_pos ha]
      have hst := hb.step (m := m) rfl ha
      have nx := ih (a + 1) (stepB m op a st) (by omega) (by omega) hst.1
      refine fold_loop (fun j (w : St2) => L_spec_jFar_L19 w.1 w.2 m op 0 op.length op.length a j) dl (fun _ w d => if 0 ≤ nextL m (quL st a) d then visitB op (farL st (quL st a)) w (nextL m (quL st a) d) else w)
        (fun (_ : Nat) (w : St2) => BJ op.length src ((a : Int) + 1) (farL st (quL st a)) (quL st a) (totB st) a w) (fun w => L_spec_jFar_L16 w.1 w.2 m op 0 op.length op.length ((a + 1 : Nat) : Int)) ?_ ?_ st h4 _ ?_
      · intro w hw r hr
        apply e_spec_jFar_L19
        unfold P_spec_jFar_L19
        rw [if_neg (by simp [dl]), wrap_id (n := (a : Int) + 1) (by omega) (by omega)]
        exact hr
      · intro j d w hk hj hw
        obtain ⟨rfl, h6⟩ := dl_get hk
        refine ⟨?_, ?_⟩
        · split
          · exact hw.visit rfl h0 h1 h2 (by omega) _
          · exact hw
        intro r hr
        apply e_spec_jFar_L19
        unfold P_spec_jFar_L19
        have hwl : w.2.length ≤ totB w := by unfold totB; omega
        rw [hw.tot] at hwl
        have hq' : w.2[a]? = some (quL st a) := by rw [← hw.at_.2]; unfold quL; rw [List.getD_eq_getElem?_getD, List.getElem?_eq_getElem hw.at_.1]; rfl
        rw [if_pos (by simp; omega), oxA_at rt_cI rfl hw.at_.1]
        refine (ld_at (E := tI) rfl rfl ok_cI (fun _ => rfl) (l := w.2) rfl rfl hq' _).trans ?_
        rw [k_spec_mNext _ _ _ (c_spec_mNext _ _ _ ok.b (by unfold sm; omega) (by omega) (by omega)), wrap_id (n := (j : Int) + 1) (by omega) (by omega)]
        by_cases hk0 : 0 ≤ nextL m (quL st a) j
        · have k1 : nextL m (quL st a) j < op.length := by have := nextL_area ok.w.1 ok.w.2 (quL st a) j; have := ok.n; omega
          rw [if_pos hk0] at hr
          rw [if_pos (by simpa using hk0)]
          generalize nextL m (quL st a) j = k at hr hk0 k1
          obtain ⟨o, ho⟩ := getI_ex (l := op) hk0 k1
          rw [visit_get ho] at hr
          rw [ixA_get sl_cB _ _ ho]
          cases o with
          | false => rw [if_neg (by simp)] at hr ⊢; exact hr
          | true =>
            rw [if_pos rfl] at hr ⊢
            obtain ⟨q, e, hx, hq2⟩ := getI_some (far_get hw.bi.len hk0 k1)
            rw [oxA_at rt_cI (j := q) e (by omega)]
            refine (ld_at (E := tI) rfl rfl ok_cI (fun _ => rfl) (l := w.1) rfl rfl hx _).trans ?_
            by_cases hneg : farL w k < 0
            · rw [if_pos hneg] at hr
              rw [if_pos (by simpa using hneg), oxA_at rt_cI rfl hw.at_.1]
              refine (ld_at (E := tI) rfl rfl ok_cI (fun _ => rfl) (l := w.2) rfl rfl hq' _).trans ?_
              obtain ⟨p, ep, hxp, _⟩ := getI_some (far_get hw.bi.len h0 h1)
              rw [oxA_at rt_cI (j := p) ep (by omega)]
              refine (ld_at (E := tI) rfl rfl ok_cI (fun _ => rfl) (l := w.1) rfl rfl hxp _).trans ?_
              rw [hw.far, wrap_id (n := farL st (quL st a) + 1) (by omega) (by omega), oxA_at rt_cI (j := q) e (by omega), stF (f := 0) (off := q * 1) ok_cI rfl rfl hx rfl (by omega) rfl (y' := farL st (quL st a) + 1) rfl,
                apR_eq rt_cI (l := w.2) (xs := [k]) rfl (Src.row (n := 1) ok_cI rfl rfl) rfl rfl (by simp; omega) (by simp; omega) rfl]
              rw [e, Int.toNat_natCast] at hr
              rw [e]
              exact hr
            · rw [if_neg hneg] at hr
              rw [if_neg (by simpa using hneg)]
              exact hr
        · rw [if_neg hk0] at hr
          rw [if_neg (by simpa using hk0)]
          exact hr
      · rw [foldN_const, fold_nb]
        exact nx
    · rw [if_neg (by simpa using ha), if_neg ha, ← hb.len, give_at ok_cI rfl]
      rfl
theorem l_spec_jFar_L9 {m : DMap} {op : List Bool} {src : List Int} (ok : SpreadOk m op src) : L_spec_jFar_L9 (List.replicate op.length (-1)) [] m op 0 op.length op.length src src.length 0 = some (en_spec_jFar (spreadL m op src)) := by
  have hn := ok.l
  have hq := ok.q
  have ht := totB_le op src
  have fin := l_spec_jFar_L16 ok (totB (seedsL op src)) 0 (seedsL op src) (by omega) (by omega) (seeds_ok (op := op) (n := op.length) (src := src) rfl src _ (fun _ h => h) (BI.init op.length src)).1
  refine fold_loop (fun j (st : St2) => L_spec_jFar_L9 st.1 st.2 m op 0 op.length op.length src src.length j) src (fun _ w k => seedB op w k) (fun j w => w.1.length = op.length ∧ w.2.length ≤ j)
    (fun w => L_spec_jFar_L16 w.1 w.2 m op 0 op.length op.length 0) ?_ ?_ (List.replicate op.length (-1), []) ⟨by simp, by simp⟩ _ ?_
  · intro w hw r hr
    apply e_spec_jFar_L9
    unfold P_spec_jFar_L9
    rw [if_neg (by simp)]
    exact hr
  · intro j k w hk hj hw
    obtain ⟨k0, k1⟩ := ok.s k (mem_of_get hk)
    obtain ⟨o, ho⟩ := getI_ex (l := op) k0 k1
    refine ⟨?_, ?_⟩
    · rw [seed_get ho]
      split
      · simp; omega
      · exact ⟨hw.1, by omega⟩
    · intro r hr
      apply e_spec_jFar_L9
      unfold P_spec_jFar_L9
      rw [seed_get ho] at hr
      rw [if_pos (by simpa using hj), ixA_at sl_cI rfl hk, ixA_get sl_cB _ _ ho, wrap_id (n := (j : Int) + 1) (by omega) (by omega)]
      cases o with
      | false => rw [if_neg (by simp)] at hr ⊢; exact hr
      | true =>
        rw [if_pos rfl] at hr ⊢
        obtain ⟨q, e, hx, hq2⟩ := getI_some (far_get (st := w) hw.1 k0 k1)
        rw [oxA_at rt_cI (j := q) e (by omega), stF (f := 0) (off := q * 1) ok_cI rfl rfl hx rfl (by omega) rfl (y' := 0) rfl, apR_eq rt_cI (l := w.2) (xs := [k]) rfl (Src.row (n := 1) ok_cI rfl rfl) rfl rfl (by simp; omega) (by simp; omega) rfl]
        rw [e, Int.toNat_natCast] at hr
        rw [e]
        exact hr
  · rw [foldN_const]
    exact fin
theorem l_spec_jFar_L3 {m : DMap} {op : List Bool} {src : List Int} (ok : SpreadOk m op src) : ∀ (k i : Nat), i + k = op.length → L_spec_jFar_L3 (List.replicate i (-1) ++ List.replicate k 0) m op src 0 op.length op.length op.length i = some (en_spec_jFar (spreadL m op src)) := by
  have hn := ok.l
  intro k
  induction k with
  | zero =>
    intro i hi
    apply e_spec_jFar_L3
    unfold P_spec_jFar_L3
    rw [if_neg (by simp; omega), List.replicate_zero, List.append_nil, show i = op.length by omega]
    exact l_spec_jFar_L9 ok
  | succ k ih =>
    intro i hi
    apply e_spec_jFar_L3
    unfold P_spec_jFar_L3
    rw [if_pos (by simp; omega), oxA_at rt_cI rfl (by omega), stF (f := 0) (off := i * 1) ok_cI rfl rfl (fill_get (-1) 0 i k) rfl (by omega) rfl (y' := -1) rfl, fill_set, wrap_id (n := (i : Int) + 1) (by omega) (by omega)]
    exact ih (i + 1) (by omega)
theorem c_spec_jFar (m : DMap) (op : List Bool) (src : List Int) (ok : SpreadOk m op src) : A_spec_jFar m op src = some (en_spec_jFar (spreadL m op src)) := by
  apply e_spec_jFar
  unfold P_spec_jFar
  have hn := ok.l
  rw [mkA_z rt_cI (z := 0) (by kernel_rfl) rfl (by omega) (by omega) (by omega)]
  have := l_spec_jFar_L3 ok op.length 0 (by omega)
  simpa using this
/-! supply, walked -/
theorem c_impl_loseSteps_2 (us : List DUnit) (t w : Int) (m : Nat) (u : Nat) (n : Int) {x : DUnit} (hx : us[u]? = some x) (hm : m = us.length) : A_impl_loseSteps_2 us t w 0 m m u n = some (en_impl_loseSteps_2 (us.set u (loseU x n))) := by
  apply e_impl_loseSteps_2
  unfold P_impl_loseSteps_2
  have hl := (List.getElem?_eq_some_iff.1 hx).1
  rw [oxA_at rt_cUnit rfl (by omega)]
  refine (ld1_at (v := fun a : Int => I a) rfl rfl rfl rfl (x := I x.Steps) ((flat_get ok_cUnit.len hx (f := 3) (by omega)).trans rfl) injI rfl _).trans ?_
  rw [if_pos rfl]
  unfold loseU
  generalize (if IntKind.wrap .i64 (x.Steps - n) < 0 then 0 else IntKind.wrap .i64 (x.Steps - n)) = m
  rw [stF (f := 3) ok_cUnit rfl rfl hx rfl (by omega) rfl (y' := { x with Steps := m }) rfl]
  have hx2 : (us.set u { x with Steps := m })[u]? = some { x with Steps := m } := by rw [List.getElem?_set_self hl]
  refine (ld1_at (v := fun a : Int => I a) rfl rfl rfl rfl (x := I m) ((flat_get ok_cUnit.len hx2 (f := 3) (by omega)).trans rfl) injI rfl _).trans ?_
  by_cases hm : m = 0
  · rw [if_pos (by simpa using hm), if_pos hm, stF (f := 2) ok_cUnit rfl rfl hx2 rfl (by omega) rfl (y' := { x with Steps := m, At := -1 }) rfl, List.set_set, hm]
    rfl
  · rw [if_neg (by simpa using hm), if_neg hm]
    rfl
theorem c_spec_sLose_2 (us : List DUnit) (t w : Int) (m : Nat) (u : Nat) (n : Int) {x : DUnit} (hx : us[u]? = some x) (hm : m = us.length) : A_spec_sLose_2 us t w 0 m m u n = some (en_spec_sLose_2 (us.set u (loseU x n))) := by
  apply e_spec_sLose_2
  unfold P_spec_sLose_2
  have hl := (List.getElem?_eq_some_iff.1 hx).1
  rw [oxA_at rt_cUnit rfl (by omega)]
  refine (ld1_at (v := fun a : Int => I a) rfl rfl rfl rfl (x := I x.Steps) ((flat_get ok_cUnit.len hx (f := 3) (by omega)).trans rfl) injI rfl _).trans ?_
  rw [k_spec_l1Most _ _ (c_spec_l1Most _ _)]
  unfold loseU
  generalize (if IntKind.wrap .i64 (x.Steps - n) < 0 then 0 else IntKind.wrap .i64 (x.Steps - n)) = q
  rw [oxA_at rt_cUnit rfl (by omega), stF (f := 3) ok_cUnit rfl rfl hx rfl (by omega) rfl (y' := { x with Steps := q }) rfl, oxA_at rt_cUnit rfl (by omega)]
  have hx2 : (us.set u { x with Steps := q })[u]? = some { x with Steps := q } := by rw [List.getElem?_set_self hl]
  refine (ld1_at (v := fun a : Int => I a) rfl rfl rfl rfl (x := I q) ((flat_get ok_cUnit.len hx2 (f := 3) (by omega)).trans rfl) injI rfl _).trans ?_
  by_cases hq : q = 0
  · rw [if_pos (by simpa using hq), if_pos hq, oxA_at rt_cUnit rfl (by omega), stF (f := 2) ok_cUnit rfl rfl hx2 rfl (by omega) rfl (y' := { x with Steps := q, At := -1 }) rfl, List.set_set, hq]
    rfl
  · rw [if_neg (by simpa using hq), if_neg hq]
    rfl
theorem c_impl_blockedFor (b : DBoard) (s : DState) (side i : Int) (g : StateG b s) (hs : side = 0 ∨ side = 1) (h0 : 0 ≤ i) (h1 : i < b.Map.Width * b.Map.Height) : A_impl_blockedFor b s side i = some (en_impl_blockedFor (blockedL b s.Units side i)) := by
  apply e_impl_blockedFor
  unfold P_impl_blockedFor blockedL
  have hl := g.len
  rw [k_impl_ownerOf _ _ (c_impl_ownerOf _ _ (by omega)), wrap_id (n := 1 - side) (by omega) (by omega), k_impl_inZone _ _ _ _ (c_impl_inZone _ _ _ _ g h0 h1)]
  by_cases ho : ownerL s.Units i = 1 - side
  · rw [if_pos (by simpa using ho)]; simp [ho, en_impl_blockedFor]
  · rw [if_neg (by simpa using ho)]
    by_cases h2 : ownerL s.Units i = side
    · rw [if_neg (by simp [h2])]; simp [h2, en_impl_blockedFor]; omega
    · have e1 : (ownerL s.Units i == 1 - side) = false := by simpa using ho
      have e2 : (ownerL s.Units i != side) = true := by simpa using h2
      rw [if_pos e2, e1, e2]; simp [en_impl_blockedFor]
theorem c_spec_jBlocked (b : DBoard) (s : DState) (side i : Int) (g : StateG b s) (hs : side = 0 ∨ side = 1) (h0 : 0 ≤ i) (h1 : i < b.Map.Width * b.Map.Height) : A_spec_jBlocked b s side i = some (en_spec_jBlocked (blockedL b s.Units side i)) := by
  apply e_spec_jBlocked
  unfold P_spec_jBlocked blockedL
  have hl := g.len
  have hc := owner_cases g i
  rw [k_spec_sOwner _ _ (c_spec_sOwner _ _ (by omega)), wrap_id (n := 1 - side) (by omega) (by omega), k_spec_zIn _ _ _ _ (c_spec_zIn _ _ _ _ g h0 h1)]
  by_cases ho : ownerL s.Units i = 1 - side
  · rw [if_pos (by simpa using ho)]; simp [ho, en_spec_jBlocked]
  · rw [if_neg (by simpa using ho)]
    by_cases h2 : ownerL s.Units i = side
    · rw [if_neg (by simp; omega)]; simp [h2, en_spec_jBlocked]; omega
    · have e1 : (ownerL s.Units i == 1 - side) = false := by simpa using ho
      have e2 : (ownerL s.Units i != side) = true := by simpa using h2
      rw [if_pos (by simp; omega), e1, e2]; simp [en_spec_jBlocked]
theorem area_b {b : DBoard} (g : BoardG b) : (b.Map.Terrain.length : Int) = b.Map.Width * b.Map.Height ∧ b.Map.Terrain.length ≤ 100 := by
  have := Int.mul_le_mul g.w1 g.h1 (by have := g.h0; omega) (by omega)
  have := g.area
  exact ⟨g.area, by omega⟩
theorem range_snoc {α : Type} (f : Nat → α) (n : Nat) : (List.range (n + 1)).map f = (List.range n).map f ++ [f n] := by rw [List.range_succ, List.map_append]; rfl
theorem c_impl_openFor (b : DBoard) (s : DState) (side kind : Int) (g : StateG b s) (hs : side = 0 ∨ side = 1) (k0 : 0 ≤ kind) (k1 : kind < b.Rules.Kinds.length) : A_impl_openFor b s side kind = some (en_impl_openFor (openL b s.Units side kind)) := by
  apply e_impl_openFor
  unfold P_impl_openFor
  have ha := area_b g.bg
  refine pre_loop (fun i (acc : List Bool) => L_impl_openFor_L3 acc b s side kind b.Map.Terrain.length i) (fun pre => (List.range pre.length).map fun (i : Nat) => openAt b s.Units side kind i) b.Map.Terrain (fun _ _ => some (en_impl_openFor (openL b s.Units side kind))) ?_ (fun pre x post h ih => ?_) _ rfl
  · intro r hr
    apply e_impl_openFor_L3
    unfold P_impl_openFor_L3
    rw [if_neg (by simp), give_at ok_cB rfl]
    exact hr
  · intro r hr
    apply e_impl_openFor_L3
    unfold P_impl_openFor_L3
    have hlt := mid_lt h
    have ih := ih r hr
    rw [List.length_append, List.length_cons, List.length_nil, range_snoc] at ih
    obtain ⟨hc, hc0, _⟩ := g.bg.cost_ex k0 k1 (i := pre.length) (by omega) (by omega)
    rw [if_pos (by simpa using hlt), k_impl_enterCost _ _ _ (c_impl_enterCost _ _ _ hc), wrap_id (n := (pre.length : Int) + 1) (by omega) (by omega), k_impl_blockedFor _ _ _ _ (c_impl_blockedFor _ _ _ _ g hs (by omega) (by omega))]
    by_cases hz : costL b kind pre.length = 0
    · rw [if_neg (by simp [hz]), apR_eq rt_cB (xs := [false]) rfl (Src.row (n := 1) ok_cB rfl rfl) rfl rfl (by simp; omega) (by simp; omega) rfl]
      have e : openAt b s.Units side kind (pre.length : Int) = false := by unfold openAt; simp [hz]
      rw [e] at ih
      exact ih
    · rw [if_pos (by simpa using hz), apR_eq rt_cB (xs := [!blockedL b s.Units side pre.length]) rfl (Src.row (n := 1) ok_cB rfl rfl) rfl rfl (by simp; omega) (by simp; omega) rfl]
      have e : openAt b s.Units side kind (pre.length : Int) = !blockedL b s.Units side pre.length := by unfold openAt; simp [hz]
      rw [e] at ih
      exact ih
theorem mid_set {α : Type} (A : List α) (x z : α) (k : Nat) : (A ++ List.replicate (k + 1) z).set A.length x = A ++ [x] ++ List.replicate k z := by
  rw [List.set_append_right _ _ (by simp), Nat.sub_self, List.replicate_succ, List.set_cons_zero, List.append_assoc]
  rfl
theorem mid_at {α : Type} (A : List α) (z : α) (k : Nat) : (A ++ List.replicate (k + 1) z)[A.length]? = some z := by
  rw [List.getElem?_append_right (by simp), Nat.sub_self, List.replicate_succ]
  rfl
theorem l_spec_jOpen_L3 (b : DBoard) (s : DState) (side kind : Int) (g : StateG b s) (hs : side = 0 ∨ side = 1) (k0 : 0 ≤ kind) (k1 : kind < b.Rules.Kinds.length) : ∀ (k i : Nat), i + k = b.Map.Terrain.length →
    L_spec_jOpen_L3 ((List.range i).map (fun (i : Nat) => openAt b s.Units side kind i) ++ List.replicate k false) b s side kind 0 b.Map.Terrain.length b.Map.Terrain.length b.Map.Terrain.length i = some (en_spec_jOpen (openL b s.Units side kind)) := by
  have ha := area_b g.bg
  intro k
  induction k with
  | zero =>
    intro i hi
    apply e_spec_jOpen_L3
    unfold P_spec_jOpen_L3
    have hi : i = b.Map.Terrain.length := by omega
    subst hi
    have hl : b.Map.Terrain.length = ((List.range b.Map.Terrain.length).map (fun (i : Nat) => openAt b s.Units side kind i)).length := by simp
    rw [if_neg (by simp), List.replicate_zero, List.append_nil]
    rw [show (giveUpT _ (AV.own _ none 0 b.Map.Terrain.length b.Map.Terrain.length)) = some (slc cB ((List.range b.Map.Terrain.length).map (fun (i : Nat) => openAt b s.Units side kind i))) from by
      have := gvOwn (σ := [(Id.h 4 0, some { arr := false, fr := true, nest := false, esz := 0, cells := cBoard b }), (Id.h 5 0, some { arr := false, fr := true, nest := false, esz := 0, cells := cState s }), (Id.h 9 0, some (rowB true false 1 cB ((List.range b.Map.Terrain.length).map (fun (i : Nat) => openAt b s.Units side kind i))))]) ok_cB (id := Id.h 9 0) (fr := true) rfl
      rw [← hl] at this
      exact this]
    rw [cast_of (slc_inj ok_cB) rfl]
    rfl
  | succ k ih =>
    intro i hi
    apply e_spec_jOpen_L3
    unfold P_spec_jOpen_L3
    obtain ⟨hc, hc0, _⟩ := g.bg.cost_ex k0 k1 (i := i) (by omega) (by omega)
    have hl : ((List.range i).map (fun (i : Nat) => openAt b s.Units side kind i)).length = i := by simp
    have hm := mid_at ((List.range i).map (fun (i : Nat) => openAt b s.Units side kind i)) false k
    have hst : ∀ x, ((List.range i).map (fun (i : Nat) => openAt b s.Units side kind i) ++ List.replicate (k + 1) false).set i x = (List.range i).map (fun (i : Nat) => openAt b s.Units side kind i) ++ [x] ++ List.replicate k false := fun x => by
      have := mid_set ((List.range i).map (fun (i : Nat) => openAt b s.Units side kind i)) x false k
      rw [hl] at this
      exact this
    rw [hl] at hm
    have ih := ih (i + 1) (by omega)
    rw [range_snoc] at ih
    rw [if_pos (by simp; omega), k_spec_bCost _ _ _ (c_spec_bCost _ _ _ hc), wrap_id (n := (i : Int) + 1) (by omega) (by omega), k_spec_jBlocked _ _ _ _ (c_spec_jBlocked _ _ _ _ g hs (by omega) (by omega))]
    by_cases hz : costL b kind i = 0
    · rw [if_neg (by simp [hz]), oxA_at rt_cB rfl (by omega), stF (f := 0) (off := i * 1) ok_cB rfl rfl hm rfl (by omega) rfl (y' := false) rfl, hst]
      have e : openAt b s.Units side kind (i : Int) = false := by unfold openAt; simp [hz]
      rw [e] at ih
      exact ih
    · rw [if_pos (by simp; omega), oxA_at rt_cB rfl (by omega), stF (f := 0) (off := i * 1) ok_cB rfl rfl hm rfl (by omega) rfl (y' := !blockedL b s.Units side i) rfl, hst]
      have e : openAt b s.Units side kind (i : Int) = !blockedL b s.Units side i := by unfold openAt; simp [hz]
      rw [e] at ih
      exact ih
theorem c_spec_jOpen (b : DBoard) (s : DState) (side kind : Int) (g : StateG b s) (hs : side = 0 ∨ side = 1) (k0 : 0 ≤ kind) (k1 : kind < b.Rules.Kinds.length) : A_spec_jOpen b s side kind = some (en_spec_jOpen (openL b s.Units side kind)) := by
  apply e_spec_jOpen
  unfold P_spec_jOpen
  have ha := area_b g.bg
  rw [k_spec_mSize _ (c_spec_mSize _), ← ha.1, wrap_id (by omega) (by omega), mkA_z rt_cB (z := false) (by kernel_rfl) rfl (by omega) (by omega) (by omega)]
  have := l_spec_jOpen_L3 b s side kind g hs k0 k1 b.Map.Terrain.length 0 (by omega)
  simpa using this
def srcB (b : DBoard) (l : List Int) : Bool := decide ((l.length : Int) ≤ 6) && (risingB l && l.all (inB 0 ((b.Map.Terrain.length : Int) - 1)))
theorem c_impl_areSources_1 (b : DBoard) (k : Int) (hn : BoardN b) : A_impl_areSources_1 b k = some (en_impl_areSources_1 (!inB 0 ((b.Map.Terrain.length : Int) - 1) k, b)) := by
  apply e_impl_areSources_1
  unfold P_impl_areSources_1
  have := hn.m.t
  rw [k_impl_sizeOf _ (c_impl_sizeOf _), k_impl_isIndex _ _ (c_impl_isIndex _ _ (by omega) (by omega))]
  rfl
theorem c_slices_IndexFunc_int_of_impl_areSources_1 (b : DBoard) (l : List Int) (hn : BoardN b) (hl : l.length < 1000000000000) : A_slices_IndexFunc_int_of_impl_areSources_1 b l = some (en_slices_IndexFunc_int_of_impl_areSources_1 (findI (fun k => !inB 0 ((b.Map.Terrain.length : Int) - 1) k) l, b)) := by
  apply e_slices_IndexFunc_int_of_impl_areSources_1
  unfold P_slices_IndexFunc_int_of_impl_areSources_1
  refine idx_loop (fun i => L_slices_IndexFunc_int_of_impl_areSources_1_L2 b l l.length i) l (fun k => !inB 0 ((b.Map.Terrain.length : Int) - 1) k) (fun i => some (en_slices_IndexFunc_int_of_impl_areSources_1 (i, b))) ?_ (fun i x hx hi => ?_) _ rfl
  · intro _ h; apply e_slices_IndexFunc_int_of_impl_areSources_1_L2; unfold P_slices_IndexFunc_int_of_impl_areSources_1_L2
    rw [← h]; simp [en_slices_IndexFunc_int_of_impl_areSources_1]
  · intro _ h; apply e_slices_IndexFunc_int_of_impl_areSources_1_L2; unfold P_slices_IndexFunc_int_of_impl_areSources_1_L2
    rw [if_pos (by simpa using hi), ixA_at sl_cI rfl hx, k_impl_areSources_1 _ _ (c_impl_areSources_1 _ _ hn), wrap_id (by omega) (by omega)]
    exact h
theorem c_impl_areSources (b : DBoard) (l : List Int) (hn : BoardN b) : A_impl_areSources b l = some (en_impl_areSources (srcB b l)) := by
  apply e_impl_areSources
  unfold P_impl_areSources srcB
  by_cases hq : (l.length : Int) ≤ 6
  · rw [if_pos (by simpa using hq), k_impl_increasing _ (c_impl_increasing _ (by omega))]
    have hc : A_slices_ContainsFunc_int_of_impl_areSources_1 b l = some (en_slices_ContainsFunc_int_of_impl_areSources_1 (l.any (fun k => !inB 0 ((b.Map.Terrain.length : Int) - 1) k), b)) := by
      apply e_slices_ContainsFunc_int_of_impl_areSources_1
      unfold P_slices_ContainsFunc_int_of_impl_areSources_1
      rw [k_slices_IndexFunc_int_of_impl_areSources_1 _ _ (c_slices_IndexFunc_int_of_impl_areSources_1 _ _ hn (by omega)), findI_any]
      rfl
    rw [k_slices_ContainsFunc_int_of_impl_areSources_1 _ _ hc]
    cases risingB l <;> simp [en_impl_areSources, List.all_eq_not_any_not, hq]
  · rw [if_neg (by simpa using hq)]
    simp [en_impl_areSources, hq]
theorem c_spec_jSources (b : DBoard) (l : List Int) (g : BoardG b) : A_spec_jSources b l = some (en_spec_jSources (srcB b l)) := by
  apply e_spec_jSources
  unfold P_spec_jSources srcB
  have ha := area_b g
  by_cases hq : (l.length : Int) ≤ 6
  · rw [if_pos (by simpa using hq), k_spec_mSize _ (c_spec_mSize _), ← ha.1, wrap_id (n := (b.Map.Terrain.length : Int)) (by omega) (by omega), wrap_id (by omega) (by omega), k_spec_l1Rising _ _ _ (c_spec_l1Rising _ _ _ (by omega))]
    simp [en_spec_jSources, hq, Bool.and_comm]
  · rw [if_neg (by simpa using hq)]
    simp [en_spec_jSources, hq]
theorem src_ok {b : DBoard} {l : List Int} (g : BoardG b) (h : srcB b l = true) (us : List DUnit) (side kind : Int) : SpreadOk b.Map (openL b us side kind) l := by
  have ha := area_b g
  unfold srcB at h
  simp only [Bool.and_eq_true, decide_eq_true_eq, List.all_eq_true, inB_iff] at h
  have hl : (openL b us side kind).length = b.Map.Terrain.length := by unfold openL; simp
  exact ⟨by rw [hl]; exact ha.1, ⟨g.w0, g.h0⟩, by omega, fun i hi => by have := h.2.2 i hi; omega, by omega, g.s.b⟩
/-! units in supply -/
theorem way_get {b : DBoard} {us : List DUnit} {src : List Int} {u : DUnit} (g : BoardG b) (h : srcB b src = true) (h0 : 0 ≤ u.At) (h1 : u.At < b.Map.Width * b.Map.Height) :
    getI (spreadL b.Map (openL b us u.Side u.Kind) src) u.At = some ((getI (spreadL b.Map (openL b us u.Side u.Kind) src) u.At).getD 0) := by
  have ha := area_b g
  have hl := spread_len b.Map (openL b us u.Side u.Kind) src
  have ho : (openL b us u.Side u.Kind).length = b.Map.Terrain.length := by unfold openL; simp
  obtain ⟨x, hx⟩ := getI_ex (l := spreadL b.Map (openL b us u.Side u.Kind) src) h0 (by omega)
  rw [hx]
  rfl
theorem c_impl_wayOf (b : DBoard) (s : DState) (u : DUnit) (src : List Int) (g : StateG b s) (hu : u ∈ s.Units) (hs : srcB b src = true) : A_impl_wayOf b s u src = some (en_impl_wayOf (wayL b s.Units src u)) := by
  apply e_impl_wayOf
  unfold P_impl_wayOf
  have hk := unit_kind (g.u u hu)
  rw [k_impl_openFor _ _ _ _ (c_impl_openFor _ _ _ _ g (unit_side (g.u u hu)) hk.1 hk.2)]
  have hw : A_impl_supplyWay b u (openL b s.Units u.Side u.Kind) src = some (en_impl_supplyWay (wayL b s.Units src u)) := by
    apply e_impl_supplyWay
    unfold P_impl_supplyWay wayL
    by_cases h0 : u.At < 0
    · rw [if_pos (by simpa using h0), if_pos h0]; rfl
    · have hp := unit_place (g.u u hu) (by omega)
      rw [if_neg (by simpa using h0), if_neg h0, k_impl_spread _ _ _ (c_impl_spread _ _ _ (src_ok g.bg hs s.Units u.Side u.Kind)), ixA_get sl_cI _ _ (way_get g.bg hs (by omega) hp.1)]
      by_cases h1 : b.Rules.Supply < (getI (spreadL b.Map (openL b s.Units u.Side u.Kind) src) u.At).getD 0
      · rw [if_pos (by simpa using h1), if_pos h1]; rfl
      · rw [if_neg (by simpa using h1), if_neg h1]; rfl
  rw [k_impl_supplyWay _ _ _ _ hw]
  rfl
theorem c_spec_jIn (b : DBoard) (s : DState) (k : Int) (src : List Int) (g : StateG b s) {u : DUnit} (hk : getI s.Units k = some u) (hu : u ∈ s.Units) (hs : srcB b src = true) : A_spec_jIn b s k src = some (en_spec_jIn (decide (0 ≤ wayL b s.Units src u))) := by
  apply e_spec_jIn
  unfold P_spec_jIn wayL
  have hkd := unit_kind (g.u u hu)
  rw [ixA_get sl_cUnit _ _ hk]
  by_cases h0 : u.At < 0
  · rw [if_pos (by simpa using h0), if_pos h0]; rfl
  · have hp := unit_place (g.u u hu) (by omega)
    have hj : A_spec_jUnit b s k src = some (en_spec_jUnit (openL b s.Units u.Side u.Kind, spreadL b.Map (openL b s.Units u.Side u.Kind) src)) := by
      apply e_spec_jUnit
      unfold P_spec_jUnit
      rw [ixA_get sl_cUnit _ _ hk, k_spec_jOpen _ _ _ _ (c_spec_jOpen _ _ _ _ g (unit_side (g.u u hu)) hkd.1 hkd.2), k_spec_jFar _ _ _ (c_spec_jFar _ _ _ (src_ok g.bg hs s.Units u.Side u.Kind))]
      rfl
    rw [if_neg (by simpa using h0), if_neg h0, k_spec_jUnit _ _ _ _ hj, ixA_get sl_cI _ _ (way_get g.bg hs (by omega) hp.1), kk_spec_l1In]
    generalize (getI (spreadL b.Map (openL b s.Units u.Side u.Kind) src) u.At).getD 0 = d
    have e : inB 0 b.Rules.Supply d = decide (0 ≤ if b.Rules.Supply < d then -1 else d) := by
      rw [Bool.eq_iff_iff, inB_iff, decide_eq_true_eq]
      split <;> omega
    rw [e]
    rfl
theorem gvStT {σ : Store} {t w : Int} {us : List DUnit} {i : Id} {f : Bool} {n m : Nat} (h : n = us.length) (g : σ.get? i = some (rowB f false 4 cUnit us)) : giveUpT σ (.agg [I t, I w, .own i none 0 n m]) = some (.agg (cState ⟨t, w, us⟩)) := gvState' h g
def outB (b : DBoard) (us : List DUnit) (src : List Int) (u : DUnit) : Bool := decide (wayL b us src u < 0)
theorem unit_of {us : List DUnit} {side k : Int} (h : k ∈ ofL us side) : ∃ (n : Nat) (u : DUnit), k = n ∧ n < us.length ∧ getI us k = some u ∧ u ∈ us ∧ (getI us k).getD zU = u ∧ onSide side u = true := by
  obtain ⟨n, u, h1, h2, h3, h4⟩ := mem_of h
  exact ⟨n, u, h1, (List.getElem?_eq_some_iff.1 h2).1, h3, mem_of_get h2, by rw [h3]; rfl, h4⟩
theorem loseF_at {c : DUnit → Bool} {us w : List DUnit} {n : Nat} {u x : DUnit} (hu : getI us (n : Int) = some u) (hx : w[n]? = some x) : loseF c us w n = if c u then w.set n (loseU x 1) else w := by
  unfold loseF
  rw [hu, getI_nat, hx]
  rfl
theorem of_len (us : List DUnit) (side : Int) : (ofL us side).length ≤ us.length := by
  unfold ofL colI
  have key : ∀ (l : List DUnit) (n : Nat), (colN (fun _ u => u.Side == side && decide (0 ≤ u.At)) (fun k _ => (k : Int)) n l).length ≤ l.length := by
    intro l
    induction l with
    | nil => intro n; simp [colN]
    | cons x l ih =>
      intro n
      unfold colN
      have := ih (n + 1)
      split <;> simp <;> omega
  exact key us 0
def loseL (b : DBoard) (s : DState) (side : Int) (src : List Int) : DState := ⟨s.Turn, s.Weather, s.Units.map (hitU (outB b s.Units src) side)⟩
theorem c_impl_unsupplied (b : DBoard) (s : DState) (side : Int) (src : List Int) (g : StateG b s) (hs : srcB b src = true) : A_impl_unsupplied b s side src = some (en_impl_unsupplied (loseL b s side src)) := by
  apply e_impl_unsupplied
  unfold P_impl_unsupplied loseL
  have hl := g.len
  have hol := of_len s.Units side
  rw [k_impl_cloneState _ (c_impl_cloneState _ (by omega)), k_impl_unitsOf _ _ (c_impl_unitsOf _ _ (by omega)), ← lose_map, ← foldN_const _ (ofL s.Units side) 0]
  refine fold_loop (fun j (w : List DUnit) => L_impl_unsupplied_L3 w b s 0 0 s.Turn s.Weather 0 s.Units.length s.Units.length src (ofL s.Units side) (ofL s.Units side).length j) (ofL s.Units side) (fun _ w k => loseF (outB b s.Units src) s.Units w k)
    (fun _ w => w.length = s.Units.length) (fun w => some (en_impl_unsupplied ⟨s.Turn, s.Weather, w⟩)) ?_ ?_ s.Units rfl _ rfl
  · intro w hw r hr
    apply e_impl_unsupplied_L3
    unfold P_impl_unsupplied_L3
    rw [if_neg (by simp), cast_of inj_state (a := ⟨s.Turn, s.Weather, w⟩) (gvStT hw.symm rfl)]
    exact hr
  · intro j k w hk hj hw
    refine ⟨by rw [loseF_len]; exact hw, ?_⟩
    intro r hr
    apply e_impl_unsupplied_L3
    unfold P_impl_unsupplied_L3
    obtain ⟨n, u, e, hn, hu, hm, _, _⟩ := unit_of (mem_of_get hk)
    subst e
    have hx : w[n]? = some w[n] := List.getElem?_eq_getElem (by omega)
    rw [loseF_at hu hx] at hr
    rw [if_pos (by simpa using hj), ixA_at sl_cI rfl hk, ixA_get sl_cUnit _ _ hu, k_impl_wayOf _ _ _ _ (c_impl_wayOf _ _ _ _ g hm hs), wrap_id (n := (j : Int) + 1) (by omega) (by omega)]
    unfold outB at hr
    by_cases hc : wayL b s.Units src u < 0
    · rw [if_pos (by simpa using hc)] at hr ⊢
      rw [k_impl_loseSteps_2 _ _ _ _ _ _ _ _ (c_impl_loseSteps_2 _ _ _ _ _ _ hx hw.symm)]
      exact hr
    · rw [if_neg (by simpa using hc)] at hr ⊢
      exact hr
theorem c_spec_jLose (b : DBoard) (s : DState) (side : Int) (src : List Int) (g : StateG b s) (hs : srcB b src = true) : A_spec_jLose b s side src = some (en_spec_jLose (loseL b s side src)) := by
  apply e_spec_jLose
  unfold P_spec_jLose loseL
  have hl := g.len
  have hol := of_len s.Units side
  rw [k_spec_sOwn _ (c_spec_sOwn _ (by omega)), k_spec_sOf _ _ (c_spec_sOf _ _ (by omega)), ← lose_map, ← foldN_const _ (ofL s.Units side) 0]
  refine fold_loop (fun j (w : List DUnit) => L_spec_jLose_L3 w b s 0 0 s.Turn s.Weather 0 s.Units.length s.Units.length src (ofL s.Units side) (ofL s.Units side).length j) (ofL s.Units side) (fun _ w k => loseF (outB b s.Units src) s.Units w k)
    (fun _ w => w.length = s.Units.length) (fun w => some (en_spec_jLose ⟨s.Turn, s.Weather, w⟩)) ?_ ?_ s.Units rfl _ rfl
  · intro w hw r hr
    apply e_spec_jLose_L3
    unfold P_spec_jLose_L3
    rw [if_neg (by simp), cast_of inj_state (a := ⟨s.Turn, s.Weather, w⟩) (gvStT hw.symm rfl)]
    exact hr
  · intro j k w hk hj hw
    refine ⟨by rw [loseF_len]; exact hw, ?_⟩
    intro r hr
    apply e_spec_jLose_L3
    unfold P_spec_jLose_L3
    obtain ⟨n, u, e, hn, hu, hm, _, _⟩ := unit_of (mem_of_get hk)
    subst e
    have hx : w[n]? = some w[n] := List.getElem?_eq_getElem (by omega)
    rw [loseF_at hu hx] at hr
    rw [if_pos (by simpa using hj), ixA_at sl_cI rfl hk, k_spec_jIn _ _ _ _ (c_spec_jIn _ _ _ _ g hu hm hs), wrap_id (n := (j : Int) + 1) (by omega) (by omega)]
    unfold outB at hr
    by_cases hc : wayL b s.Units src u < 0
    · rw [if_pos (by simpa using hc)] at hr
      rw [if_pos (by simp; omega), k_spec_sLose_2 _ _ _ _ _ _ _ _ (c_spec_sLose_2 _ _ _ _ _ _ hx hw.symm)]
      exact hr
    · rw [if_neg (by simpa using hc)] at hr
      rw [if_neg (by simp; omega)]
      exact hr
def askB (b : DBoard) (s : DState) (side : Int) (src : List Int) : Bool := gameB b s && (inB 0 1 side && srcB b src)
def loseUL (b : DBoard) (s : DState) (side : Int) (src : List Int) : DState × Bool := if askB b s side src then (loseL b s side src, true) else (⟨0, 0, []⟩, false)
theorem c_impl_LoseUnsupplied (b : DBoard) (s : DState) (side : Int) (src : List Int) (hn : BoardN b) (hs : s.Units.length < 1000000000000) : A_impl_LoseUnsupplied b s side src = some (en_impl_LoseUnsupplied (loseUL b s side src)) := by
  apply e_impl_LoseUnsupplied
  unfold P_impl_LoseUnsupplied loseUL askB
  rw [k_impl_fits _ _ (c_impl_fits _ _ hn hs), k_impl_isSide _ (c_impl_isSide _), k_impl_areSources _ _ (c_impl_areSources _ _ hn)]
  cases hg : gameB b s with
  | false => rfl
  | true =>
    cases hi : inB 0 1 side with
    | false => rfl
    | true =>
      cases hq : srcB b src with
      | false => rfl
      | true =>
        rw [if_neg (by simp), if_neg (by simp), if_neg (by simp), k_impl_unsupplied _ _ _ _ (c_impl_unsupplied _ _ _ _ (StateG.ofB hg hn) hq)]
        rfl
theorem c_spec_LoseUnsupplied (b : DBoard) (s : DState) (side : Int) (src : List Int) (hn : BoardN b) (hs : s.Units.length < 1000000000000) : A_spec_LoseUnsupplied b s side src = some (en_spec_LoseUnsupplied (loseUL b s side src)) := by
  apply e_spec_LoseUnsupplied
  unfold P_spec_LoseUnsupplied loseUL askB
  rw [k_spec_sGood _ _ (c_spec_sGood _ _ hn hs), kk_spec_l1In, show (boardB b && stateB b s) = gameB b s from rfl]
  cases hg : gameB b s with
  | false => rfl
  | true =>
    have g := StateG.ofB hg hn
    rw [k_spec_jSources _ _ (c_spec_jSources _ _ g.bg)]
    cases hi : inB 0 1 side with
    | false => rfl
    | true =>
      cases hq : srcB b src with
      | false => rfl
      | true =>
        rw [if_neg (by simp), if_neg (by simp), if_neg (by simp), k_spec_jLose _ _ _ _ (c_spec_jLose _ _ _ _ g hq)]
        rfl
def distsL (b : DBoard) (s : DState) (side kind : Int) (src : List Int) : List Int × Bool :=
  if gameB b s && (inB 0 1 side && (inB 0 ((b.Rules.Kinds.length : Int) - 1) kind && srcB b src)) then (spreadL b.Map (openL b s.Units side kind) src, true) else ([], false)
theorem c_impl_SupplyDistances (b : DBoard) (s : DState) (side kind : Int) (src : List Int) (hn : BoardN b) (hs : s.Units.length < 1000000000000) : A_impl_SupplyDistances b s side kind src = some (en_impl_SupplyDistances (distsL b s side kind src)) := by
  apply e_impl_SupplyDistances
  unfold P_impl_SupplyDistances distsL
  have := hn.r.k
  rw [k_impl_fits _ _ (c_impl_fits _ _ hn hs), k_impl_isSide _ (c_impl_isSide _), k_impl_isIndex _ _ (c_impl_isIndex _ _ (by omega) (by omega)), k_impl_areSources _ _ (c_impl_areSources _ _ hn)]
  cases hg : gameB b s with
  | false => rfl
  | true =>
    have g := StateG.ofB hg hn
    cases hi : inB 0 1 side with
    | false => rfl
    | true =>
      cases hk : inB 0 ((b.Rules.Kinds.length : Int) - 1) kind with
      | false => rfl
      | true =>
        cases hq : srcB b src with
        | false => rfl
        | true =>
          rw [inB_iff] at hi hk
          rw [if_neg (by simp), if_neg (by simp), if_neg (by simp), if_neg (by simp), k_impl_openFor _ _ _ _ (c_impl_openFor _ _ _ _ g (by omega) hk.1 (by omega)), k_impl_spread _ _ _ (c_impl_spread _ _ _ (src_ok g.bg hq s.Units side kind))]
          rfl
theorem c_spec_SupplyDistances (b : DBoard) (s : DState) (side kind : Int) (src : List Int) (hn : BoardN b) (hs : s.Units.length < 1000000000000) : A_spec_SupplyDistances b s side kind src = some (en_spec_SupplyDistances (distsL b s side kind src)) := by
  apply e_spec_SupplyDistances
  unfold P_spec_SupplyDistances distsL
  have := hn.r.k
  rw [k_spec_sGood _ _ (c_spec_sGood _ _ hn hs), kk_spec_l1In, wrap_id (n := (b.Rules.Kinds.length : Int) - 1) (by omega) (by omega), kk_spec_l1In, show (boardB b && stateB b s) = gameB b s from rfl]
  cases hg : gameB b s with
  | false => rfl
  | true =>
    have g := StateG.ofB hg hn
    rw [k_spec_jSources _ _ (c_spec_jSources _ _ g.bg)]
    cases hi : inB 0 1 side with
    | false => rfl
    | true =>
      cases hk : inB 0 ((b.Rules.Kinds.length : Int) - 1) kind with
      | false => rfl
      | true =>
        cases hq : srcB b src with
        | false => rfl
        | true =>
          rw [inB_iff] at hi hk
          rw [if_neg (by simp), if_neg (by simp), if_neg (by simp), if_neg (by simp), k_spec_jOpen _ _ _ _ (c_spec_jOpen _ _ _ _ g (by omega) hk.1 (by omega)), k_spec_jFar _ _ _ (c_spec_jFar _ _ _ (src_ok g.bg hq s.Units side kind))]
          rfl
theorem dists_zero {b : DBoard} {s : DState} {side kind : Int} {src : List Int} {k : Nat} (h : (distsL b s side kind src).1[k]? = some 0) : (k : Int) ∈ src := by
  unfold distsL at h
  split at h
  · exact spread_zero _ _ _ h
  · simp at h
theorem dists_len {b : DBoard} (hn : BoardN b) (s : DState) (side kind : Int) (src : List Int) : (distsL b s side kind src).1.length < 1000000000000 := by
  unfold distsL
  have := hn.m.t
  split
  · rw [spread_len]; unfold openL; simp; omega
  · simp
def blockL (b : DBoard) (s : DState) (side i : Int) : Bool × Bool := if gameB b s && hexB' b i && inB 0 1 side then (blockedL b s.Units side i, true) else (false, false)
theorem c_impl_SupplyBlocked (b : DBoard) (s : DState) (side i : Int) (hn : BoardN b) (hs : s.Units.length < 1000000000000) : A_impl_SupplyBlocked b s side i = some (en_impl_SupplyBlocked (blockL b s side i)) := by
  apply e_impl_SupplyBlocked
  unfold P_impl_SupplyBlocked blockL
  rw [k_impl_hasHex _ _ _ (c_impl_hasHex _ _ _ hn hs), k_impl_isSide _ (c_impl_isSide _)]
  cases hg : gameB b s && hexB' b i with
  | false => rfl
  | true =>
    cases hi : inB 0 1 side with
    | false => rfl
    | true =>
      rw [Bool.and_eq_true, hexB'_iff] at hg
      rw [inB_iff] at hi
      rw [if_neg (by simp), if_neg (by simp), k_impl_blockedFor _ _ _ _ (c_impl_blockedFor _ _ _ _ (StateG.ofB hg.1 hn) (by omega) hg.2.1 hg.2.2)]
      rfl
theorem c_spec_SupplyBlocked (b : DBoard) (s : DState) (side i : Int) (hn : BoardN b) (hs : s.Units.length < 1000000000000) : A_spec_SupplyBlocked b s side i = some (en_spec_SupplyBlocked (blockL b s side i)) := by
  apply e_spec_SupplyBlocked
  unfold P_spec_SupplyBlocked blockL
  rw [k_spec_sHex _ _ _ (c_spec_sHex _ _ _ hn hs), kk_spec_l1In]
  cases hg : gameB b s && hexB' b i with
  | false => rfl
  | true =>
    cases hi : inB 0 1 side with
    | false => rfl
    | true =>
      rw [Bool.and_eq_true, hexB'_iff] at hg
      rw [inB_iff] at hi
      rw [if_neg (by simp), if_neg (by simp), k_spec_jBlocked _ _ _ _ (c_spec_jBlocked _ _ _ _ (StateG.ofB hg.1 hn) (by omega) hg.2.1 hg.2.2)]
      rfl
theorem col_filter (q : Int → Bool) (l : List Int) : colI (fun _ k => q k) (fun _ k => k) l = l.filter q := by
  have key : ∀ (l : List Int) (n : Nat), colN (fun _ k => q k) (fun _ k => k) n l = l.filter q := by
    intro l
    induction l with
    | nil => intro n; rfl
    | cons x l ih =>
      intro n
      unfold colN
      rw [List.filter_cons, ih]
  exact key l 0
def inSup (b : DBoard) (us : List DUnit) (src : List Int) (k : Int) : Bool := decide (0 ≤ wayL b us src ((getI us k).getD zU))
def suppliedL (b : DBoard) (s : DState) (side : Int) (src : List Int) : List Int × Bool := if askB b s side src then ((ofL s.Units side).filter (inSup b s.Units src), true) else ([], false)
theorem c_impl_SuppliedUnits (b : DBoard) (s : DState) (side : Int) (src : List Int) (hn : BoardN b) (hs : s.Units.length < 1000000000000) : A_impl_SuppliedUnits b s side src = some (en_impl_SuppliedUnits (suppliedL b s side src)) := by
  apply e_impl_SuppliedUnits
  unfold P_impl_SuppliedUnits suppliedL askB
  rw [k_impl_fits _ _ (c_impl_fits _ _ hn hs), k_impl_isSide _ (c_impl_isSide _), k_impl_areSources _ _ (c_impl_areSources _ _ hn)]
  cases hg : gameB b s with
  | false => rfl
  | true =>
    cases hi : inB 0 1 side with
    | false => rfl
    | true =>
      cases hq : srcB b src with
      | false => rfl
      | true =>
        have g := StateG.ofB hg hn
        have hol := of_len s.Units side
        rw [if_neg (by simp), if_neg (by simp), if_neg (by simp), k_impl_unitsOf _ _ (c_impl_unitsOf _ _ hs), if_pos (by rfl), ← col_filter]
        refine col_loop (fun j acc => L_impl_SuppliedUnits_L5 acc b s src (ofL s.Units side) (ofL s.Units side).length j) (ofL s.Units side) (fun _ k => inSup b s.Units src k) (fun _ k => k) (fun acc => some (en_impl_SuppliedUnits (acc, true))) ?_ (fun j k acc hk hj ha => ?_) _ rfl
        · intro acc ha r hr
          apply e_impl_SuppliedUnits_L5
          unfold P_impl_SuppliedUnits_L5
          rw [if_neg (by simp), cast_of inj_lb (a := (acc, true)) (gvTup (gvVs_cons (gvOwn ok_cI rfl) (gvVs_cons rfl rfl)))]
          exact hr
        · intro r hr
          apply e_impl_SuppliedUnits_L5
          unfold P_impl_SuppliedUnits_L5
          obtain ⟨n, u, e, hnl, hu, hm, hd, _⟩ := unit_of (mem_of_get hk)
          unfold inSup at hr
          rw [hd] at hr
          rw [if_pos (by simpa using hj), ixA_at sl_cI rfl hk, ixA_get sl_cUnit _ _ hu, k_impl_wayOf _ _ _ _ (c_impl_wayOf _ _ _ _ g hm hq), wrap_id (n := (j : Int) + 1) (by omega) (by omega)]
          by_cases hc : 0 ≤ wayL b s.Units src u
          · rw [if_pos (by simpa using hc)] at hr ⊢
            rw [apR_eq rt_cI rfl (xs := [k]) (Src.row (n := 1) ok_cI rfl rfl) rfl rfl (by simp; omega) (by simp; omega) rfl]
            exact hr
          · rw [if_neg (by simpa using hc)] at hr ⊢
            exact hr
theorem c_impl_InSupply (b : DBoard) (s : DState) (k : Int) (src : List Int) (hn : BoardN b) (hs : s.Units.length < 1000000000000) (hg : gameB b s = true) (hq : srcB b src = true) {u : DUnit} (hu : getI s.Units k = some u) (hm : u ∈ s.Units) : A_impl_InSupply b s k src = some (en_impl_InSupply (decide (0 ≤ wayL b s.Units src u), true)) := by
  apply e_impl_InSupply
  unfold P_impl_InSupply
  have hi : inB 0 ((s.Units.length : Int) - 1) k = true := by
    obtain ⟨n, e, _, hl⟩ := getI_some hu
    rw [inB_iff]
    omega
  have h1 : A_impl_isSupply b s k src = some (en_impl_isSupply true) := by
    apply e_impl_isSupply
    unfold P_impl_isSupply
    rw [k_impl_hasUnit _ _ _ (c_impl_hasUnit _ _ _ hn hs), hg, hi, if_pos (by rfl), k_impl_areSources _ _ (c_impl_areSources _ _ hn), hq]
    rfl
  rw [k_impl_isSupply _ _ _ _ h1, if_neg (by simp), ixA_get sl_cUnit _ _ hu, k_impl_wayOf _ _ _ _ (c_impl_wayOf _ _ _ _ (StateG.ofB hg hn) hm hq)]
  rfl
theorem c_impl_CountSteps (b : DBoard) (s : DState) (hn : BoardN b) (hs : s.Units.length < 1000000000000) (hg : gameB b s = true) : A_impl_CountSteps b s = some (en_impl_CountSteps (sumI (stepOn 0) s.Units, sumI (stepOn 1) s.Units, true)) := by
  apply e_impl_CountSteps
  unfold P_impl_CountSteps
  have g := StateG.ofB hg hn
  have hl := g.len
  rw [k_impl_fits _ _ (c_impl_fits _ _ hn hs), hg, if_neg (by simp)]
  refine fold_loop (fun i (a : A2I) => L_impl_CountSteps_L5 a s.Units s.Units.length i) s.Units (fun _ (a : A2I) u => (⟨a.a0 + stepOn 0 u, a.a1 + stepOn 1 u⟩ : A2I))
    (fun i a => 0 ≤ a.a0 ∧ a.a0 ≤ 4 * i ∧ 0 ≤ a.a1 ∧ a.a1 ≤ 4 * i) (fun a => some (en_impl_CountSteps (a.a0, a.a1, true))) ?_ ?_ ⟨0, 0⟩ (by simp) _ ?_
  · intro a _ r hr
    apply e_impl_CountSteps_L5
    unfold P_impl_CountSteps_L5
    rw [if_neg (by simp)]
    exact hr
  · intro i z a hz hi ha
    have hm := mem_of_get hz
    have hsd := unit_side (g.u z hm)
    by_cases h0 : 0 ≤ z.At
    · have hst := on_steps g hm h0
      refine ⟨by unfold stepOn; rcases hsd with h | h <;> simp [h, h0] <;> omega, ?_⟩
      intro r hr
      apply e_impl_CountSteps_L5
      unfold P_impl_CountSteps_L5
      rw [if_pos (by simpa using hi), ixA_at sl_cUnit rfl hz, wrap_id (n := (i : Int) + 1) (by omega) (by omega), if_pos (by simpa using h0)]
      unfold stepOn at hr
      rcases hsd with h | h
      · rw [if_pos h, if_pos h, wrap_id (by omega) (by omega)]
        simpa [h, h0] using hr
      · rw [if_neg (by omega), if_pos h, if_neg (by omega), if_pos h, wrap_id (by omega) (by omega)]
        simpa [h, h0] using hr
    · have e0 : ∀ t, stepOn t z = 0 := fun t => by unfold stepOn; rw [if_neg (fun h => h0 h.1)]
      refine ⟨by simp only [e0]; omega, ?_⟩
      intro r hr
      apply e_impl_CountSteps_L5
      unfold P_impl_CountSteps_L5
      simp only [e0, Int.add_zero] at hr
      rw [if_pos (by simpa using hi), ixA_at sl_cUnit rfl hz, wrap_id (n := (i : Int) + 1) (by omega) (by omega), if_neg (by simpa using h0)]
      exact hr
  · rw [foldN_sum2]
    simp
/-! sources, drawn -/
theorem src_en (l : List Int) (c : Dl1Cur) : ((AV.own (Id.r 0 0) none 0 l.length l.length, [(Id.l 0, some { arr := false, fr := false, nest := false, esz := 0, cells := cl1Cur c }), (Id.r 0 0, some (rowB true false 1 cI l))]) : R) = en_spec_l1Cur_sources ((l, []), c) := by
  simp [en_spec_l1Cur_sources]
theorem t_spec_l1Cur_sources (b : DBoard) (s : DState) (hu : s.Units.length ≤ 20) (l : List Int) (c : Dl1Cur) (n : Int) (hl : l.length ≤ 5) (hc : Cu c n) (hn : n ≤ Far - 500) :
    OK (P_spec_l1Cur_sources_L3 l c b s 0 l.length l.length (-1)) fun r => ∃ v, r = en_spec_l1Cur_sources v ∧ (v.1.1.length ≤ 20 ∧ Cu v.2 (n + 100)) := by
  unfold Far at hn
  unfold P_spec_l1Cur_sources_L3
  rw [if_neg (by simp)]
  have tl : ∀ (c' : Dl1Cur) (F : Dl1Cur → Int → Prop), F = F := fun _ _ => rfl
  clear tl
  refine OK.ite (fun hpos => ?_) (fun _ => ?_)
  · refine ko_spec_l1Cur_one _ _ (o_spec_l1Cur_one _ _ _ hc (by unfold Far; omega)) fun o ho => ?_
    refine OK.ite (fun _ => ?_) (fun _ => ?_)
    · refine ko_spec_l1Cur_pick _ _ (o_spec_l1Cur_pick _ _ _ ho (by unfold Far; omega)) fun p0 hp0 => ?_
      have hlen : 0 < s.Units.length := by simpa using hpos
      obtain ⟨m, hm⟩ : ∃ m : Nat, p0.1 = m := ⟨p0.1.toNat, by omega⟩
      have hy : s.Units[m]? = some (s.Units[m]'(by omega)) := List.getElem?_eq_getElem (by omega)
      rw [hm, ixA_at sl_cUnit rfl hy]
      have hc2 : Cu p0.2 (n + 10) := hp0.2.2.to
      refine OK.ite (fun _ => ?_) (fun _ => ?_)
      · refine ok_spec_l1Put _ _ (by omega) ?_ fun l' hl' => ?_
        all_goals
          dsimp only
          refine ko_spec_l1Cur_pick _ _ (o_spec_l1Cur_pick _ _ _ hc2 (by unfold Far; omega)) fun p hp => ?_
          obtain ⟨_, _, hp2⟩ := hp
          refine OK.ite (fun _ => ?_) (fun _ => OK.ite (fun _ => ?_) (fun _ => OK.ite (fun _ => ?_) (fun _ => ?_)))
          · refine OK.cast (slc_inj ok_cI) (a := [-1, 0, 100]) rfl ?_
            refine ko_spec_l1Cur_among _ _ (o_spec_l1Cur_among _ _ _ hp2 (by unfold Far; omega) (by simp)) fun q hq => ?_
            rw [apR_eq rt_cI rfl (xs := [q.1]) (Src.row (n := 1) ok_cI rfl rfl) rfl rfl (by simp; omega) (by simp; omega) rfl]
            exact OK.some ⟨((_, []), _), src_en _ _, by simp; omega, hq.2.to⟩
          · exact OK.some ⟨(([], []), _), src_en [] _, by simp, hp2.to⟩
          · refine ko_spec_l1Cur_pick _ _ (o_spec_l1Cur_pick _ _ _ hp2 (by unfold Far; omega)) fun q hq => ?_
            have hq1 : q.1 = 0 ∨ q.1 = 1 := by omega
            rcases hq1 with h | h
            · refine OK.eq (slO_hi rt_cI (l := [0, 1, 2, 3, 4, 5, 6]) (j := 6) rfl (by rw [h]; rfl) (by omega) _) ?_
              exact OK.some ⟨(([0, 1, 2, 3, 4, 5], [6]), _), rfl, by simp, hq.2.2.to⟩
            · refine OK.eq (slO_hi rt_cI (l := [0, 1, 2, 3, 4, 5, 6]) (j := 7) rfl (by rw [h]; rfl) (by omega) _) ?_
              exact OK.some ⟨(([0, 1, 2, 3, 4, 5, 6], []), _), rfl, by simp, hq.2.2.to⟩
          · exact OK.some ⟨((_, []), _), src_en _ _, by dsimp only; omega, hp2.to⟩
      · refine ko_spec_l1Cur_pick _ _ (o_spec_l1Cur_pick _ _ _ hc2 (by unfold Far; omega)) fun p hp => ?_
        obtain ⟨_, _, hp2⟩ := hp
        refine OK.ite (fun _ => ?_) (fun _ => OK.ite (fun _ => ?_) (fun _ => OK.ite (fun _ => ?_) (fun _ => ?_)))
        · refine OK.cast (slc_inj ok_cI) (a := [-1, 0, 100]) rfl ?_
          refine ko_spec_l1Cur_among _ _ (o_spec_l1Cur_among _ _ _ hp2 (by unfold Far; omega) (by simp)) fun q hq => ?_
          rw [apR_eq rt_cI rfl (xs := [q.1]) (Src.row (n := 1) ok_cI rfl rfl) rfl rfl (by simp; omega) (by simp; omega) rfl]
          exact OK.some ⟨((_, []), _), src_en _ _, by simp; omega, hq.2.to⟩
        · exact OK.some ⟨(([], []), _), src_en [] _, by simp, hp2.to⟩
        · refine ko_spec_l1Cur_pick _ _ (o_spec_l1Cur_pick _ _ _ hp2 (by unfold Far; omega)) fun q hq => ?_
          have hq1 : q.1 = 0 ∨ q.1 = 1 := by omega
          rcases hq1 with h | h
          · refine OK.eq (slO_hi rt_cI (l := [0, 1, 2, 3, 4, 5, 6]) (j := 6) rfl (by rw [h]; rfl) (by omega) _) ?_
            exact OK.some ⟨(([0, 1, 2, 3, 4, 5], [6]), _), rfl, by simp, hq.2.2.to⟩
          · refine OK.eq (slO_hi rt_cI (l := [0, 1, 2, 3, 4, 5, 6]) (j := 7) rfl (by rw [h]; rfl) (by omega) _) ?_
            exact OK.some ⟨(([0, 1, 2, 3, 4, 5, 6], []), _), rfl, by simp, hq.2.2.to⟩
        · exact OK.some ⟨((_, []), _), src_en _ _, by dsimp only; omega, hp2.to⟩
    · have hc2 : Cu o.2 (n + 10) := ho.to
      refine ko_spec_l1Cur_pick _ _ (o_spec_l1Cur_pick _ _ _ hc2 (by unfold Far; omega)) fun p hp => ?_
      obtain ⟨_, _, hp2⟩ := hp
      refine OK.ite (fun _ => ?_) (fun _ => OK.ite (fun _ => ?_) (fun _ => OK.ite (fun _ => ?_) (fun _ => ?_)))
      · refine OK.cast (slc_inj ok_cI) (a := [-1, 0, 100]) rfl ?_
        refine ko_spec_l1Cur_among _ _ (o_spec_l1Cur_among _ _ _ hp2 (by unfold Far; omega) (by simp)) fun q hq => ?_
        rw [apR_eq rt_cI rfl (xs := [q.1]) (Src.row (n := 1) ok_cI rfl rfl) rfl rfl (by simp; omega) (by simp; omega) rfl]
        exact OK.some ⟨((_, []), _), src_en _ _, by simp; omega, hq.2.to⟩
      · exact OK.some ⟨(([], []), _), src_en [] _, by simp, hp2.to⟩
      · refine ko_spec_l1Cur_pick _ _ (o_spec_l1Cur_pick _ _ _ hp2 (by unfold Far; omega)) fun q hq => ?_
        have hq1 : q.1 = 0 ∨ q.1 = 1 := by omega
        rcases hq1 with h | h
        · refine OK.eq (slO_hi rt_cI (l := [0, 1, 2, 3, 4, 5, 6]) (j := 6) rfl (by rw [h]; rfl) (by omega) _) ?_
          exact OK.some ⟨(([0, 1, 2, 3, 4, 5], [6]), _), rfl, by simp, hq.2.2.to⟩
        · refine OK.eq (slO_hi rt_cI (l := [0, 1, 2, 3, 4, 5, 6]) (j := 7) rfl (by rw [h]; rfl) (by omega) _) ?_
          exact OK.some ⟨(([0, 1, 2, 3, 4, 5, 6], []), _), rfl, by simp, hq.2.2.to⟩
      · exact OK.some ⟨((_, []), _), src_en _ _, by dsimp only; omega, hp2.to⟩
  · have hc2 : Cu c (n + 10) := hc.to
    refine ko_spec_l1Cur_pick _ _ (o_spec_l1Cur_pick _ _ _ hc2 (by unfold Far; omega)) fun p hp => ?_
    obtain ⟨_, _, hp2⟩ := hp
    refine OK.ite (fun _ => ?_) (fun _ => OK.ite (fun _ => ?_) (fun _ => OK.ite (fun _ => ?_) (fun _ => ?_)))
    · refine OK.cast (slc_inj ok_cI) (a := [-1, 0, 100]) rfl ?_
      refine ko_spec_l1Cur_among _ _ (o_spec_l1Cur_among _ _ _ hp2 (by unfold Far; omega) (by simp)) fun q hq => ?_
      rw [apR_eq rt_cI rfl (xs := [q.1]) (Src.row (n := 1) ok_cI rfl rfl) rfl rfl (by simp; omega) (by simp; omega) rfl]
      exact OK.some ⟨((_, []), _), src_en _ _, by simp; omega, hq.2.to⟩
    · exact OK.some ⟨(([], []), _), src_en [] _, by simp, hp2.to⟩
    · refine ko_spec_l1Cur_pick _ _ (o_spec_l1Cur_pick _ _ _ hp2 (by unfold Far; omega)) fun q hq => ?_
      have hq1 : q.1 = 0 ∨ q.1 = 1 := by omega
      rcases hq1 with h | h
      · refine OK.eq (slO_hi rt_cI (l := [0, 1, 2, 3, 4, 5, 6]) (j := 6) rfl (by rw [h]; rfl) (by omega) _) ?_
        exact OK.some ⟨(([0, 1, 2, 3, 4, 5], [6]), _), rfl, by simp, hq.2.2.to⟩
      · refine OK.eq (slO_hi rt_cI (l := [0, 1, 2, 3, 4, 5, 6]) (j := 7) rfl (by rw [h]; rfl) (by omega) _) ?_
        exact OK.some ⟨(([0, 1, 2, 3, 4, 5, 6], []), _), rfl, by simp, hq.2.2.to⟩
    · exact OK.some ⟨((_, []), _), src_en _ _, by dsimp only; omega, hp2.to⟩
theorem l_spec_l1Cur_sources_L3 (b : DBoard) (hb : BoardN b) (s : DState) (hu : s.Units.length ≤ 20) : ∀ (k : Nat) (l : List Int) (c : Dl1Cur) (n : Int), l.length + k ≤ 5 → Cu c n → n ≤ Far - 1000 - 20 * k →
    ∃ v, L_spec_l1Cur_sources_L3 l c b s 0 l.length l.length ((k : Int) - 1) = some (en_spec_l1Cur_sources v) ∧ (v.1.1.length ≤ 20 ∧ Cu v.2 (n + 20 * k + 100)) := by
  intro k
  induction k with
  | zero =>
    intro l c n hl hc hn
    unfold Far at hn
    refine okA (e_spec_l1Cur_sources_L3 _ _ _ _ _ _ _ _) ?_
    have h := t_spec_l1Cur_sources b s hu l c n (by omega) hc (by unfold Far; omega)
    exact h.mono fun r ⟨v, h1, h2, h3⟩ => ⟨v, h1, h2, h3.to⟩
  | succ k ih =>
    intro l c n hl hc hn
    unfold Far at hn
    refine okA (e_spec_l1Cur_sources_L3 _ _ _ _ _ _ _ _) ?_
    have ht := t_spec_l1Cur_sources b s hu l c n (by omega) hc (by unfold Far; omega)
    unfold P_spec_l1Cur_sources_L3 at ht ⊢
    rw [if_neg (by simp)] at ht
    rw [if_pos (by simp <;> omega), k_spec_mGood _ (c_spec_mGood _ hb.m), wrap_id (n := ((k + 1 : Nat) : Int) - 1 - 1) (by omega) (by omega), show ((k + 1 : Nat) : Int) - 1 - 1 = (k : Int) - 1 by omega]
    refine OK.ite (fun _ => ?_) (fun _ => ?_)
    · refine ko_spec_l1Cur_place _ _ (o_spec_l1Cur_place _ _ _ hc (by unfold Far; omega)) fun p hp => ?_
      refine ok_spec_l1Put _ _ (by omega) ?_ fun l' hl' => ?_
      · obtain ⟨r, h1, h2⟩ := ih l p.2 (n + 4) (by omega) hp (by unfold Far; omega)
        exact ⟨_, h1, r, rfl, h2.1, h2.2.to⟩
      · obtain ⟨r, h1, h2⟩ := ih l' p.2 (n + 4) (by omega) hp (by unfold Far; omega)
        exact ⟨_, h1, r, rfl, h2.1, h2.2.to⟩
    · exact ht.mono fun r ⟨v, h1, h2, h3⟩ => ⟨v, h1, h2, h3.to⟩
theorem o_spec_l1Cur_sources (c : Dl1Cur) (b : DBoard) (s : DState) (hb : BoardN b) (hu : s.Units.length ≤ 20) (n : Int) (hc : Cu c n) (hn : n ≤ Far - 2000) : ∃ v, A_spec_l1Cur_sources c b s = some (en_spec_l1Cur_sources v) ∧ (v.1.1.length ≤ 20 ∧ Cu v.2 (n + 300)) := by
  refine okA (e_spec_l1Cur_sources _ _ _) ?_
  unfold P_spec_l1Cur_sources
  unfold Far at hn
  refine ko_spec_l1Cur_pick _ _ (o_spec_l1Cur_pick _ _ _ hc (by unfold Far; omega)) fun p hp => ?_
  obtain ⟨m, hm⟩ : ∃ m : Nat, p.1 = (m : Int) - 1 := ⟨(p.1 + 1).toNat, by omega⟩
  rw [hm]
  obtain ⟨r, h1, h2⟩ := l_spec_l1Cur_sources_L3 b hb s hu m [] p.2 (n + 2) (by simp; omega) hp.2.2 (by unfold Far; omega)
  exact ⟨_, h1, r, rfl, h2.1, h2.2.to⟩
theorem o_spec_l1Cur_kindOn (c : Dl1Cur) (b : DBoard) (n : Int) (hc : Cu c n) (hn : n ≤ Far - 100) : ∃ v, A_spec_l1Cur_kindOn c b = some (en_spec_l1Cur_kindOn v) ∧ Cu v.2 (n + 10) := by
  refine okA (e_spec_l1Cur_kindOn _ _) ?_
  unfold P_spec_l1Cur_kindOn
  unfold Far at hn
  rw [k_spec_l1Most _ _ (c_spec_l1Most _ _)]
  refine ko_spec_l1Cur_pick _ _ (o_spec_l1Cur_pick _ _ _ hc (by unfold Far; omega)) fun p hp => ?_
  refine ko_spec_l1Cur_pick _ _ (o_spec_l1Cur_pick _ _ _ hp.2.2 (by unfold Far; omega)) fun q hq => ?_
  exact OK.some ⟨(_, _), rfl, hq.2.2.to⟩
theorem gvPart {α : Type} {σ : Store} {c : α → List AV} {e : Nat} (h : COk c e) {id : Id} {fr : Bool} {l r : List α} {m : Nat} (hb : σ.get? id = some (rowB fr false e c (l ++ r))) : giveUpV σ (.own id none 0 l.length m) = some (slc c l) := by
  have := giveN h (n := l.length) (cap := m) (by simp) hb
  rw [List.take_left] at this
  exact this
theorem inj_bsil : Inj fun a : DBoard × DState × Int × List Int => AV.tup [AV.agg [slc cTerrain a.fst.Rules.Terrains, slc cKind a.fst.Rules.Kinds, I a.fst.Rules.Stack, I a.fst.Rules.River, I a.fst.Rules.Road, I a.fst.Rules.Supply, I a.fst.Rules.Turns, I a.fst.Map.Width, I a.fst.Map.Height, slc cI a.fst.Map.Terrain, slc cI a.fst.Map.Rivers, slc cI a.fst.Map.Roads], AV.agg [I a.snd.fst.Turn, I a.snd.fst.Weather, slc cUnit a.snd.fst.Units], I a.snd.snd.fst, slc cI a.snd.snd.snd] := fun a b h => by
  injection h with h
  injection h with h1 h
  injection h with h2 h
  injection h with h3 h
  injection h with h4 h
  injection h3 with h3
  injection h3 with _ h3
  exact Prod.ext (inj_board _ _ h1) (Prod.ext (inj_state _ _ h2) (Prod.ext h3 (slc_inj ok_cI _ _ h4)))
theorem inj_bsiil : Inj fun a : DBoard × DState × Int × Int × List Int => AV.tup [AV.agg [slc cTerrain a.fst.Rules.Terrains, slc cKind a.fst.Rules.Kinds, I a.fst.Rules.Stack, I a.fst.Rules.River, I a.fst.Rules.Road, I a.fst.Rules.Supply, I a.fst.Rules.Turns, I a.fst.Map.Width, I a.fst.Map.Height, slc cI a.fst.Map.Terrain, slc cI a.fst.Map.Rivers, slc cI a.fst.Map.Roads], AV.agg [I a.snd.fst.Turn, I a.snd.fst.Weather, slc cUnit a.snd.fst.Units], I a.snd.snd.fst, I a.snd.snd.snd.fst, slc cI a.snd.snd.snd.snd] := fun a b h => by
  injection h with h
  injection h with h1 h
  injection h with h2 h
  injection h with h3 h
  injection h with h4 h
  injection h with h5 h
  injection h3 with h3
  injection h3 with _ h3
  injection h4 with h4
  injection h4 with _ h4
  exact Prod.ext (inj_board _ _ h1) (Prod.ext (inj_state _ _ h2) (Prod.ext h3 (Prod.ext h4 (slc_inj ok_cI _ _ h5))))
theorem inj_bsii : Inj fun a : DBoard × DState × Int × Int => AV.tup [AV.agg [slc cTerrain a.fst.Rules.Terrains, slc cKind a.fst.Rules.Kinds, I a.fst.Rules.Stack, I a.fst.Rules.River, I a.fst.Rules.Road, I a.fst.Rules.Supply, I a.fst.Rules.Turns, I a.fst.Map.Width, I a.fst.Map.Height, slc cI a.fst.Map.Terrain, slc cI a.fst.Map.Rivers, slc cI a.fst.Map.Roads], AV.agg [I a.snd.fst.Turn, I a.snd.fst.Weather, slc cUnit a.snd.fst.Units], I a.snd.snd.fst, I a.snd.snd.snd] := fun a b h => by
  injection h with h
  injection h with h1 h
  injection h with h2 h
  injection h with h3 h
  injection h with h4 h
  injection h3 with h3
  injection h3 with _ h3
  injection h4 with h4
  injection h4 with _ h4
  exact Prod.ext (inj_board _ _ h1) (Prod.ext (inj_state _ _ h2) (Prod.ext h3 h4))
theorem o_spec_DrawSuppliedUnits (x : KSl) (h : Arg x) : ∃ v, A_spec_DrawSuppliedUnits x = some (en_spec_DrawSuppliedUnits v) ∧ (BoardN v.1 ∧ v.2.1.Units.length ≤ 20 ∧ v.2.2.2.length ≤ 20) := by
  refine okA (e_spec_DrawSuppliedUnits _) ?_
  unfold P_spec_DrawSuppliedUnits
  refine ko_spec_l1Cur_game _ (o_spec_l1Cur_game _ 0 h.cu (by unfold Far; omega)) fun r hr => ?_
  obtain ⟨⟨b, s⟩, c1⟩ := r
  obtain ⟨hb, hu0, hu1, hc1⟩ := hr
  dsimp only at hb hu0 hu1 hc1 ⊢
  refine OK.cast (slc_inj ok_cI) (a := [0, 1, 0, 1, 0, 1, 2, -1]) rfl ?_
  refine ko_spec_l1Cur_among _ _ (o_spec_l1Cur_among _ _ _ hc1 (by unfold Far; omega) (by simp)) fun q hq => ?_
  refine OK.cast inj_state (a := s) (gvState' rfl rfl) ?_
  refine ko_spec_l1Cur_sources _ _ _ (o_spec_l1Cur_sources _ _ _ hb hu1 _ hq.2 (by unfold Far; omega)) fun v hv => ?_
  rw [gd_eq imm_cI]
  exact OK.cast inj_bsil (a := (b, s, q.1, v.1.1)) (gvTup (gvVs_cons rfl (gvVs_cons (gvState' rfl rfl) (gvVs_cons rfl (gvVs_cons (gvPart ok_cI rfl) rfl))))) (OK.some ⟨(b, s, q.1, v.1.1), rfl, hb, hu1, hv.1⟩)
theorem o_spec_DrawLoseUnsupplied (x : KSl) (h : Arg x) : ∃ v, A_spec_DrawLoseUnsupplied x = some (en_spec_DrawLoseUnsupplied v) ∧ (BoardN v.1 ∧ v.2.1.Units.length ≤ 20 ∧ v.2.2.2.length ≤ 20) := by
  refine okA (e_spec_DrawLoseUnsupplied _) ?_
  unfold P_spec_DrawLoseUnsupplied
  refine ko_spec_DrawSuppliedUnits _ (o_spec_DrawSuppliedUnits _ h) fun v hv => ?_
  exact OK.some ⟨(_, _, _, _), rfl, hv⟩
theorem o_spec_DrawSupplyDistances (x : KSl) (h : Arg x) : ∃ v, A_spec_DrawSupplyDistances x = some (en_spec_DrawSupplyDistances v) ∧ (BoardN v.1 ∧ v.2.1.Units.length ≤ 20 ∧ v.2.2.2.2.length ≤ 20) := by
  refine okA (e_spec_DrawSupplyDistances _) ?_
  unfold P_spec_DrawSupplyDistances
  refine ko_spec_l1Cur_game _ (o_spec_l1Cur_game _ 0 h.cu (by unfold Far; omega)) fun r hr => ?_
  obtain ⟨⟨b, s⟩, c1⟩ := r
  obtain ⟨hb, hu0, hu1, hc1⟩ := hr
  dsimp only at hb hu0 hu1 hc1 ⊢
  refine OK.cast (slc_inj ok_cI) (a := [0, 1, 0, 1, 0, 1, 2, -1]) rfl ?_
  refine ko_spec_l1Cur_among _ _ (o_spec_l1Cur_among _ _ _ hc1 (by unfold Far; omega) (by simp)) fun q hq => ?_
  refine ko_spec_l1Cur_kindOn _ _ (o_spec_l1Cur_kindOn _ _ _ hq.2 (by unfold Far; omega)) fun k hk => ?_
  refine OK.cast inj_state (a := s) (gvState' rfl rfl) ?_
  refine ko_spec_l1Cur_sources _ _ _ (o_spec_l1Cur_sources _ _ _ hb hu1 _ hk (by unfold Far; omega)) fun v hv => ?_
  rw [gd_eq imm_cI]
  exact OK.cast inj_bsiil (a := (b, s, q.1, k.1, v.1.1)) (gvTup (gvVs_cons rfl (gvVs_cons (gvState' rfl rfl) (gvVs_cons rfl (gvVs_cons rfl (gvVs_cons (gvPart ok_cI rfl) rfl)))))) (OK.some ⟨(b, s, q.1, k.1, v.1.1), rfl, hb, hu1, hv.1⟩)
theorem o_spec_DrawStackRoom (x : KSl) (h : Arg x) : ∃ v, A_spec_DrawStackRoom x = some (en_spec_DrawStackRoom v) ∧ (BoardN v.1 ∧ v.2.1.Units.length ≤ 20) := by
  refine okA (e_spec_DrawStackRoom _) ?_
  unfold P_spec_DrawStackRoom
  refine ko_spec_l1Cur_game _ (o_spec_l1Cur_game _ 0 h.cu (by unfold Far; omega)) fun r hr => ?_
  obtain ⟨⟨b, s⟩, c1⟩ := r
  obtain ⟨hb, hu0, hu1, hc1⟩ := hr
  dsimp only at hb hu0 hu1 hc1 ⊢
  refine OK.cast (slc_inj ok_cI) (a := [0, 1, 0, 1, 0, 1, 2, -1]) rfl ?_
  refine ko_spec_l1Cur_among _ _ (o_spec_l1Cur_among _ _ _ hc1 (by unfold Far; omega) (by simp)) fun q hq => ?_
  refine OK.cast inj_state (a := s) (gvState' rfl rfl) ?_
  refine ko_spec_l1Cur_hexIn _ _ _ (o_spec_l1Cur_hexIn _ _ _ hb _ hq.2 (by unfold Far; omega)) fun u hu => ?_
  exact OK.cast inj_bsii (a := (b, s, q.1, u.1)) (gvTup (gvVs_cons rfl (gvVs_cons (gvState' rfl rfl) (gvVs_cons rfl (gvVs_cons rfl rfl))))) (OK.some ⟨(b, s, q.1, u.1), rfl, hb, hu1⟩)
theorem o_spec_DrawSupplyBlocked (x : KSl) (h : Arg x) : ∃ v, A_spec_DrawSupplyBlocked x = some (en_spec_DrawSupplyBlocked v) ∧ (BoardN v.1 ∧ v.2.1.Units.length ≤ 20) := by
  refine okA (e_spec_DrawSupplyBlocked _) ?_
  unfold P_spec_DrawSupplyBlocked
  refine ko_spec_DrawStackRoom _ (o_spec_DrawStackRoom _ h) fun v hv => ?_
  exact OK.some ⟨(_, _, _, _), rfl, hv⟩
/-! FnSupplied -/
theorem stepOn_b {b : DBoard} {s : DState} (g : StateG b s) (t : Int) : 0 ≤ sumI (stepOn t) s.Units ∧ sumI (stepOn t) s.Units ≤ 48 := by
  have hl := g.len
  have h := sumI_b (f := stepOn t) (lo := 0) (hi := 4) (l := s.Units) fun u hu => by
    unfold stepOn
    split
    · rename_i h
      have := on_steps g hu h.1
      omega
    · omega
  omega
theorem foldN_miss (q : Int → Bool) (l : List Int) : foldN (fun _ (m : Int) k => if q k then m else m + 1) 0 0 l = ((l.filter fun k => !q k).length : Int) := by
  have key : ∀ (l : List Int) (n : Nat) (m : Int), foldN (fun _ (m : Int) k => if q k then m else m + 1) n m l = m + ((l.filter fun k => !q k).length : Int) := by
    intro l
    induction l with
    | nil => intro n m; simp [foldN]
    | cons x l ih =>
      intro n m
      unfold foldN
      rw [ih, List.filter_cons]
      cases q x <;> simp <;> omega
  rw [key]
  omega
theorem has_filter {l : List Int} {q : Int → Bool} {k : Int} (h : k ∈ l) : ((l.filter q).any fun x => x == k) = q k := by
  rw [Bool.eq_iff_iff, List.any_eq_true]
  constructor
  · rintro ⟨x, hx, he⟩
    rw [← beq_iff_eq.1 he]
    exact (List.mem_filter.1 hx).2
  · intro hq
    exact ⟨k, List.mem_filter.2 ⟨h, hq⟩, by simp⟩
theorem l_laws_FnSupplied_L28 (b : DBoard) (s : DState) (side : Int) (src : List Int) (hn : BoardN b) (hg : gameB b s = true) (hq : srcB b src = true) :
    L_laws_FnSupplied_L28 b s (loseL b s side src) src ((ofL s.Units side).filter (inSup b s.Units src)) 0 (ofL s.Units side) (ofL s.Units side).length 0 = some (B true, []) := by
  have g := StateG.ofB hg hn
  have hl := g.len
  have hol := of_len s.Units side
  have hg2 : gameB b (loseL b s side src) = true := game_hit (outB b s.Units src) side hg hn
  have g2 := StateG.ofB hg2 hn
  have hl2 := g2.len
  have a0 := stepOn_b g 0
  have a1 := stepOn_b g 1
  have b0 := stepOn_b g2 0
  have b1 := stepOn_b g2 1
  have hD := steps_hit g (outB b s.Units src) side s.Units fun _ h => h
  have hM := cnt_of (outB b s.Units src) s.Units side
  have hc0 : (0 : Int) ≤ cntC (outB b s.Units src) side s.Units := by unfold cntC; omega
  refine fold_loop (fun j (m : Int) => L_laws_FnSupplied_L28 b s (loseL b s side src) src ((ofL s.Units side).filter (inSup b s.Units src)) m (ofL s.Units side) (ofL s.Units side).length j) (ofL s.Units side) (fun _ (m : Int) k => if inSup b s.Units src k then m else m + 1)
    (fun j m => 0 ≤ m ∧ m ≤ j) (fun m => some (B (cntC (outB b s.Units src) side s.Units == m), [])) ?_ ?_ 0 (by simp) _ ?_
  · intro m hm r hr
    apply e_laws_FnSupplied_L28
    unfold P_laws_FnSupplied_L28
    rw [if_neg (by simp), k_impl_CountSteps _ _ (c_impl_CountSteps _ _ hn (by omega) hg), k_impl_CountSteps _ _ (c_impl_CountSteps _ _ hn (by omega) hg2), if_pos rfl, if_pos rfl]
    dsimp only
    rw [wrap_id (n := sumI (stepOn 0) s.Units + sumI (stepOn 1) s.Units) (by omega) (by omega), wrap_id (n := sumI (stepOn 0) s.Units + sumI (stepOn 1) s.Units - _) (by omega) (by omega), wrap_id (by omega) (by omega)]
    have e : sumI (stepOn 0) s.Units + sumI (stepOn 1) s.Units - sumI (stepOn 0) (loseL b s side src).Units - sumI (stepOn 1) (loseL b s side src).Units = cntC (outB b s.Units src) side s.Units := hD
    rw [e]
    exact hr
  · intro j k m hk hj hm
    refine ⟨by split <;> omega, ?_⟩
    intro r hr
    apply e_laws_FnSupplied_L28
    unfold P_laws_FnSupplied_L28
    have hmem := mem_of_get hk
    obtain ⟨n, u, e, hnl, hu, hmu, hd, _⟩ := unit_of hmem
    have hin : inSup b s.Units src k = decide (0 ≤ wayL b s.Units src u) := by unfold inSup; rw [hd]
    have hfl : ((ofL s.Units side).filter (inSup b s.Units src)).length ≤ (ofL s.Units side).length := List.length_filter_le ..
    rw [if_pos (by simpa using hj), ixA_at sl_cI rfl hk, k_impl_InSupply _ _ _ _ (c_impl_InSupply _ _ _ _ hn (by omega) hg hq hu hmu), if_neg (by simp), k_laws_qHas _ _ (c_laws_qHas _ _ (by omega)), has_filter hmem, hin, if_neg (by simp), wrap_id (n := (j : Int) + 1) (by omega) (by omega), wrap_id (n := m + 1) (by omega) (by omega)]
    rw [hin] at hr
    by_cases hc : 0 ≤ wayL b s.Units src u
    · rw [if_pos (by simpa using hc)] at hr
      rw [if_neg (by simpa using hc)]
      exact hr
    · rw [if_neg (by simpa using hc)] at hr
      rw [if_pos (by simpa using hc)]
      exact hr
  · rw [foldN_miss]
    have e : ((ofL s.Units side).filter fun k => !inSup b s.Units src k) = (ofL s.Units side).filter fun k => outB b s.Units src ((getI s.Units k).getD zU) := by
      refine List.filter_congr fun k _ => ?_
      unfold inSup outB
      rw [Bool.eq_iff_iff]
      simp
    rw [e, hM]
    simp
theorem l_laws_FnSupplied_L15 (b : DBoard) (s : DState) (side : Int) (src : List Int) (hn : BoardN b) (hs : s.Units.length < 1000000000000) (c : DBoard) (t : DState) (other kind : Int) (from_ : List Int) (hn2 : BoardN c) (hf : from_.length ≤ 20) :
    L_laws_FnSupplied_L15 b s (loseUL b s side src).1 side src (loseUL b s side src).2 from_ (distsL c t other kind from_).1 (distsL c t other kind from_).1.length 0 = some (B true, []) := by
  have hlen := dists_len hn2 t other kind from_
  have h := any_loop (fun j => L_laws_FnSupplied_L15 b s (loseUL b s side src).1 side src (loseUL b s side src).2 from_ (distsL c t other kind from_).1 (distsL c t other kind from_).1.length j) (distsL c t other kind from_).1 (fun _ => false) (some (B false, [])) (some (B true, [])) ?_ (fun j x hx hj => ?_)
  · simpa using h (B true, []) (by simp)
  · intro r hr
    apply e_laws_FnSupplied_L15
    unfold P_laws_FnSupplied_L15
    rw [if_neg (by simp)]
    unfold loseUL
    cases ha : askB b s side src with
    | false => exact hr
    | true =>
      have ha2 := ha
      unfold askB at ha2
      rw [Bool.and_eq_true, Bool.and_eq_true] at ha2
      rw [if_pos rfl, if_neg (by simp), k_impl_SuppliedUnits _ _ _ _ (c_impl_SuppliedUnits _ _ _ _ hn hs), k_impl_UnitsOf _ _ _ (c_impl_UnitsOf _ _ _ hn hs)]
      unfold suppliedL
      rw [if_pos ha, ha2.1, ha2.2.1, if_pos (show (true && true) = true from rfl), if_neg (by simp), if_neg (by simp)]
      have := l_laws_FnSupplied_L28 b s side src hn ha2.1 ha2.2.2
      exact this.trans hr
  · intro r hr
    apply e_laws_FnSupplied_L15
    unfold P_laws_FnSupplied_L15
    rw [if_neg (by simp)] at hr
    rw [if_pos (by simpa using hj), ixA_at sl_cI rfl hx, wrap_id (n := (j : Int) + 1) (by omega) (by omega)]
    by_cases h0 : x = 0
    · subst h0
      have hm := dists_zero hx
      have : (from_.any fun z => z == (j : Int)) = true := List.any_eq_true.2 ⟨_, hm, by simp⟩
      rw [if_pos (by simp), k_laws_qHas _ _ (c_laws_qHas _ _ (by omega)), this, if_neg (by simp)]
      exact hr
    · rw [if_neg (by simpa using h0)]
      exact hr
theorem loseUL_len (b : DBoard) (s : DState) (side : Int) (src : List Int) : (loseUL b s side src).1.Units.length ≤ s.Units.length := by
  unfold loseUL loseL
  split <;> simp
theorem law_laws_FnSupplied (code more : KSl) (hc : Arg code) (hm : Arg more) : A_laws_FnSupplied code more = some (B true, []) := by
  have key : OK (P_laws_FnSupplied code more) fun r => r = (B true, []) := by
    unfold P_laws_FnSupplied
    refine OK.ite (fun _ => OK.some rfl) (fun _ => ?_)
    refine ko_spec_DrawLoseUnsupplied _ (o_spec_DrawLoseUnsupplied _ hc) fun v hv => ?_
    obtain ⟨b, s, side, src⟩ := v
    obtain ⟨hn, hu, hq⟩ := hv
    dsimp only at hn hu hq ⊢
    have hb1 := loseUL_len b s side src
    rw [k_impl_LoseUnsupplied _ _ _ _ (c_impl_LoseUnsupplied _ _ _ _ hn (by omega)), k_spec_LoseUnsupplied _ _ _ _ (c_spec_LoseUnsupplied _ _ _ _ hn (by omega))]
    refine ko_spec_DrawSupplyDistances _ (o_spec_DrawSupplyDistances _ hm) fun w hw => ?_
    obtain ⟨c, t, other, kind, from_⟩ := w
    obtain ⟨hn2, hu2, hq2⟩ := hw
    dsimp only at hn2 hu2 hq2 ⊢
    have hdl := dists_len hn2 t other kind from_
    rw [k_impl_SupplyDistances _ _ _ _ _ (c_impl_SupplyDistances _ _ _ _ _ hn2 (by omega)), k_spec_SupplyDistances _ _ _ _ _ (c_spec_SupplyDistances _ _ _ _ _ hn2 (by omega))]
    refine ko_spec_DrawSupplyBlocked _ (o_spec_DrawSupplyBlocked _ hm) fun w hw => ?_
    obtain ⟨d, r, which, i⟩ := w
    obtain ⟨hn3, hu3⟩ := hw
    dsimp only at hn3 hu3 ⊢
    rw [k_impl_SupplyBlocked _ _ _ _ (c_impl_SupplyBlocked _ _ _ _ hn3 (by omega)), k_spec_SupplyBlocked _ _ _ _ (c_spec_SupplyBlocked _ _ _ _ hn3 (by omega))]
    rw [if_neg (by simp), k_laws_qState _ _ (c_laws_qState _ (by omega)), if_neg (by simp), if_neg (by simp), k_laws_qInts _ _ (c_laws_qInts _ hdl), if_neg (by simp), if_neg (by simp), if_neg (by simp)]
    exact ⟨_, l_laws_FnSupplied_L15 b s side src hn (by omega) c t other kind from_ hn2 (by omega), rfl⟩
  obtain ⟨r, h1, rfl⟩ := key
  exact e_laws_FnSupplied _ _ _ h1
end Go.Ev
