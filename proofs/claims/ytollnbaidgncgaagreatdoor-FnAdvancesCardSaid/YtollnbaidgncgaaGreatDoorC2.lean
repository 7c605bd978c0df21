/-
 C2: one of the texts behind a proof of laws.FnAdvances: what the functions answer
 Its conditions: none of its own.
-/
import Derived.Test.YtollnbaidgncgaaGreatDoorC1
set_option maxRecDepth 100000
set_option linter.unusedVariables false
set_option linter.unusedSectionVars false
set_option linter.unusedSimpArgs false
set_option linter.unnecessarySimpa false
namespace Go.Ev
open Go Go.Proofs
variable [Inhabited Known]
def srcB (b : DBoard) (l : List Int) : Bool := decide ((l.length : Int) ≤ 6) && (risingB l && l.all (inB 0 ((b.Map.Terrain.length : Int) - 1)))
def reachN (m : DMap) (op : List Bool) (src : List Int) : Nat → Int → Prop
 | 0, k => k ∈ src ∧ getI op k = some true
 | d + 1, k => ∃ j, reachN m op src d j ∧ k ∈ nbL m j ∧ getI op k = some true
def reached (st : St2) (i : Int) : Prop := 0 ≤ i ∧ 0 ≤ (getI st.1 i).getD (-1)
theorem reached_far {st : St2} {i : Int} (h : reached st i) : ∃ v, getI st.1 i = some v ∧ 0 ≤ v ∧ farL st i = v := by
 obtain ⟨_, h⟩ := h
 cases hg : getI st.1 i with
 | none => rw [hg] at h; simp at h
 | some v => rw [hg] at h; exact ⟨v, rfl, h, by unfold farL; rw [hg]; rfl⟩
structure BQ (m : DMap) (op : List Bool) (src : List Int) (n a : Nat) (st : St2) : Prop where
 len : st.1.length = n
 inq : ∀ i ∈ st.2, 0 ≤ i ∧ i < n ∧ reached st i
 all : ∀ i, reached st i → i ∈ st.2
 ord : ∀ (p q : Nat) (x y : Int), p ≤ q → st.2[p]? = some x → st.2[q]? = some y → farL st x ≤ farL st y
 top : ∀ (x c : Int), st.2[a]? = some c → x ∈ st.2 → farL st x ≤ farL st c + 1
 low : ∀ (p : Nat) (x : Int), p < a → st.2[p]? = some x → ∀ k ∈ nbL m x, getI op k = some true → reached st k ∧ farL st k ≤ farL st x + 1
 one : ∀ i, reached st i → reachN m op src (farL st i).toNat i
 src0 : ∀ i ∈ src, getI op i = some true → reached st i ∧ farL st i = 0
theorem getI_set {l : List Int} {k i z : Int} {n : Nat} (hl : l.length = n) (h0 : 0 ≤ k) (h1 : k < n) : getI (l.set k.toNat z) i = if i = k then some z else getI l i := by
 unfold getI
 by_cases hi : 0 ≤ i
 ·simp only [if_pos hi]
  by_cases h : i = k
  ·subst h
   rw [if_pos rfl, List.getElem?_set_self (by omega)]
  ·rw [if_neg h, List.getElem?_set_ne (by omega)]
 ·simp only [if_neg hi]
  rw [if_neg (by omega)]
theorem reached_set {st : St2} {k i z : Int} {q : List Int} {n : Nat} (hl : st.1.length = n) (h0 : 0 ≤ k) (h1 : k < n) (hz : 0 ≤ z) : reached (st.1.set k.toNat z, q) i ↔ i = k ∨ reached st i := by
 unfold reached
 dsimp only
 rw [getI_set hl h0 h1]
 by_cases h : i = k
 ·subst h
  rw [if_pos rfl]
  exact ⟨fun _ => .inl rfl, fun _ => ⟨h0, hz⟩⟩
 ·rw [if_neg h]
  exact ⟨.inr, fun h2 => h2.resolve_left h⟩
structure BV (m : DMap) (op : List Bool) (src : List Int) (n a : Nat) (c d : Int) (seen : List Int) (st : St2) : Prop where
 len : st.1.length = n
 inq : ∀ i ∈ st.2, 0 ≤ i ∧ i < n ∧ reached st i
 all : ∀ i, reached st i → i ∈ st.2
 cur : st.2[a]? = some c ∧ farL st c = d ∧ 0 ≤ d
 hi : ∀ x ∈ st.2, farL st x ≤ d + 1
 ord : ∀ (p q : Nat) (x y : Int), p ≤ q → st.2[p]? = some x → st.2[q]? = some y → farL st x ≤ farL st y
 low : ∀ (p : Nat) (x : Int), p < a → st.2[p]? = some x → ∀ k ∈ nbL m x, getI op k = some true → reached st k ∧ farL st k ≤ farL st x + 1
 one : ∀ i, reached st i → reachN m op src (farL st i).toNat i
 src0 : ∀ i ∈ src, getI op i = some true → reached st i ∧ farL st i = 0
 done : ∀ k ∈ seen, getI op k = some true → reached st k ∧ farL st k ≤ d + 1
theorem BV.visit {m : DMap} {op : List Bool} {src : List Int} {n a : Nat} {c d : Int} {seen : List Int} {st : St2} (hop : op.length = n) (h : BV m op src n a c d seen st) {k : Int} (hk : k ∈ nbL m c) :
  BV m op src n a c d (seen ++ [k]) (visitB op d st k) := by
 rcases visit_cases (d := d) (st := st) (k := k) hop with e | ⟨k0, k1, ko, kn, e⟩
 ·rw [e]
  refine ⟨h.len, h.inq, h.all, h.cur, h.hi, h.ord, h.low, h.one, h.src0, ?_⟩
  intro x hx hox
  rcases List.mem_append.1 hx with hx | hx
  ·exact h.done x hx hox
  ·simp only [List.mem_singleton] at hx
   subst hx
   obtain ⟨j, hj, hjx, hjl⟩ := getI_some hox
   have hg := far_get h.len (i := x) (by omega) (by omega)
   have hr : reached st x := by
    refine ⟨by omega, ?_⟩
    rw [hg]
    show 0 ≤ farL st x
    by_cases hneg : farL st x < 0
    ·exfalso
     have e2 : visitB op d st x = (st.1.set x.toNat (d + 1), st.2 ++ [x]) := by rw [visit_get hox, if_pos rfl, if_pos hneg]
     rw [e] at e2
     have := congrArg (fun z : St2 => z.2.length) e2
     simp at this
    ·omega
   exact ⟨hr, h.hi x (h.all x hr)⟩
 ·have hnot : ∀ x, reached st x → x ≠ k := fun x hx hxk => by
   obtain ⟨v, _, h2, h3⟩ := reached_far hx
   rw [hxk] at h3
   omega
  have hd := h.cur.2.2
  have far' : ∀ x, 0 ≤ x → farL (st.1.set k.toNat (d + 1), st.2 ++ [k]) x = if x = k then d + 1 else farL st x := fun x hx => far_set h.len k0 k1 hx
  have farr : ∀ x, reached st x → farL (st.1.set k.toNat (d + 1), st.2 ++ [k]) x = farL st x := fun x hx => by rw [far' x hx.1, if_neg (hnot x hx)]
  have fark : farL (st.1.set k.toNat (d + 1), st.2 ++ [k]) k = d + 1 := by rw [far' k k0, if_pos rfl]
  have rs : ∀ x, reached (st.1.set k.toNat (d + 1), st.2 ++ [k]) x ↔ x = k ∨ reached st x := fun x => reached_set h.len k0 k1 (by omega)
  have hcl : st.2[a]? = some c := h.cur.1
  have hal := (List.getElem?_eq_some_iff.1 hcl).1
  have hrc : reached st c := (h.inq c (mem_of_get hcl)).2.2
  have get' : ∀ p x, (st.2 ++ [k])[p]? = some x → (p < st.2.length ∧ st.2[p]? = some x) ∨ (p = st.2.length ∧ x = k) := fun p x hx => by
   by_cases hp : p < st.2.length
   ·rw [List.getElem?_append_left hp] at hx
    exact .inl ⟨hp, hx⟩
   ·rw [List.getElem?_append_right (by omega)] at hx
    have hp2 := (List.getElem?_eq_some_iff.1 hx).1
    simp only [List.length_cons, List.length_nil] at hp2
    have hpe : p = st.2.length := by omega
    subst hpe
    simp at hx
    exact .inr ⟨rfl, hx.symm⟩
  rw [e]
  refine ⟨by simp [h.len], fun i hi => ?_, fun i hi => ?_, ?_, fun x hx => ?_, fun p q x y hpq hx hy => ?_, fun p x hp hx k' hk' ho' => ?_, fun i hi => ?_, fun i hi ho => ?_, fun x hx ho => ?_⟩
  ·rcases List.mem_append.1 hi with hi | hi
   ·have := h.inq i hi
    exact ⟨this.1, this.2.1, (rs i).2 (.inr this.2.2)⟩
   ·simp only [List.mem_singleton] at hi
    subst hi
    exact ⟨k0, k1, (rs i).2 (.inl rfl)⟩
  ·rcases (rs i).1 hi with hi | hi
   ·subst hi; exact List.mem_append.2 (.inr (by simp))
   ·exact List.mem_append.2 (.inl (h.all i hi))
  ·refine ⟨by rw [List.getElem?_append_left hal]; exact hcl, by rw [farr c hrc]; exact h.cur.2.1, hd⟩
  ·rcases List.mem_append.1 hx with hx | hx
   ·rw [farr x (h.inq x hx).2.2]; exact h.hi x hx
   ·simp only [List.mem_singleton] at hx
    subst hx
    rw [fark]; omega
  ·rcases get' p x hx with ⟨hp, hx⟩ | ⟨hp, hx⟩
   ·rw [farr x (h.inq x (mem_of_get hx)).2.2]
    rcases get' q y hy with ⟨hq, hy⟩ | ⟨hq, hy⟩
    ·rw [farr y (h.inq y (mem_of_get hy)).2.2]
     exact h.ord p q x y hpq hx hy
    ·rw [hy, fark]
     exact h.hi x (mem_of_get hx)
   ·rcases get' q y hy with ⟨hq, hy⟩ | ⟨hq, hy⟩
    ·omega
    ·rw [hx, hy]; omega
  ·rcases get' p x hx with ⟨hp2, hx⟩ | ⟨hp2, hx⟩
   ·have := h.low p x hp hx k' hk' ho'
    rw [farr k' this.1, farr x (h.inq x (mem_of_get hx)).2.2]
    exact ⟨(rs k').2 (.inr this.1), this.2⟩
   ·omega
  ·rcases (rs i).1 hi with hi | hi
   ·subst hi
    rw [fark, show (d + 1).toNat = d.toNat + 1 by omega]
    have := h.one c hrc
    rw [h.cur.2.1] at this
    exact ⟨c, this, hk, ko⟩
   ·rw [farr i hi]; exact h.one i hi
  ·have := h.src0 i hi ho
   exact ⟨(rs i).2 (.inr this.1), by rw [farr i this.1]; exact this.2⟩
  ·rcases List.mem_append.1 hx with hx | hx
   ·have := h.done x hx ho
    exact ⟨(rs x).2 (.inr this.1), by rw [farr x this.1]; exact this.2⟩
   ·simp only [List.mem_singleton] at hx
    subst hx
    exact ⟨(rs x).2 (.inl rfl), by rw [fark]; omega⟩
theorem BV.fold {m : DMap} {op : List Bool} {src : List Int} {n a : Nat} {c d : Int} (hop : op.length = n) : ∀ (ks seen : List Int) (st : St2), (∀ k ∈ ks, k ∈ nbL m c) → BV m op src n a c d seen st → BV m op src n a c d (seen ++ ks) (ks.foldl (visitB op d) st)
 | [], seen, st, _, h => by simpa using h
 | k :: ks, seen, st, hk, h => by
  have := BV.fold hop ks (seen ++ [k]) _ (fun x hx => hk x (by simp [hx])) (h.visit hop (hk k (by simp)))
  simpa using this
theorem BQ.step {m : DMap} {op : List Bool} {src : List Int} {n a : Nat} {st : St2} (hop : op.length = n) (h : BQ m op src n a st) (ha : a < st.2.length) : BQ m op src n (a + 1) (stepB m op a st) := by
 have hq : st.2[a]? = some (quL st a) := by unfold quL; rw [List.getD_eq_getElem?_getD, List.getElem?_eq_getElem ha]; rfl
 have hc := h.inq _ (mem_of_get hq)
 obtain ⟨v, _, hv, hv2⟩ := reached_far hc.2.2
 have h0 : BV m op src n a (quL st a) (farL st (quL st a)) [] st :=
  ⟨h.len, h.inq, h.all, ⟨hq, rfl, by omega⟩, fun x hx => h.top x _ hq hx, h.ord, h.low, h.one, h.src0, fun k hk => by cases hk⟩
 have hf := BV.fold hop (nbL m (quL st a)) [] st (fun _ hk => hk) h0
 rw [List.nil_append] at hf
 have hf : BV m op src n a (quL st a) (farL st (quL st a)) (nbL m (quL st a)) (stepB m op a st) := hf
 refine ⟨hf.len, hf.inq, hf.all, hf.ord, fun x c' hc' hx => ?_, fun p x hp hx k hk ho => ?_, hf.one, hf.src0⟩
 ·have h1 := hf.hi x hx
  have h2 := hf.ord a (a + 1) _ _ (by omega) hf.cur.1 hc'
  rw [hf.cur.2.1] at h2
  omega
 ·by_cases hpa : p = a
  ·subst hpa
   have := hf.cur.1
   rw [hx] at this
   injection this with this
   subst this
   rw [hf.cur.2.1]
   exact hf.done k hk ho
  ·exact hf.low p x (by omega) hx k hk ho
structure BS (m : DMap) (op : List Bool) (src : List Int) (n : Nat) (seen : List Int) (st : St2) : Prop where
 len : st.1.length = n
 inq : ∀ i ∈ st.2, 0 ≤ i ∧ i < n ∧ reached st i ∧ farL st i = 0
 all : ∀ i, reached st i → i ∈ st.2
 one : ∀ i, reached st i → i ∈ src ∧ getI op i = some true
 done : ∀ i ∈ seen, getI op i = some true → reached st i
theorem BS.seed {m : DMap} {op : List Bool} {src : List Int} {n : Nat} {seen : List Int} {st : St2} (hop : op.length = n) (h : BS m op src n seen st) {i : Int} (hi : i ∈ src) : BS m op src n (seen ++ [i]) (seedB op st i) := by
 unfold seedB
 cases hg : getI op i with
 | none =>
  refine ⟨h.len, h.inq, h.all, h.one, fun x hx ho => ?_⟩
  rcases List.mem_append.1 hx with hx | hx
  ·exact h.done x hx ho
  ·simp only [List.mem_singleton] at hx
   subst hx
   rw [hg] at ho; cases ho
 | some o =>
  cases o with
  | false =>
   refine ⟨h.len, h.inq, h.all, h.one, fun x hx ho => ?_⟩
   rcases List.mem_append.1 hx with hx | hx
   ·exact h.done x hx ho
   ·simp only [List.mem_singleton] at hx
    subst hx
    rw [hg] at ho; cases ho
  | true =>
   obtain ⟨j, hj, _, hl⟩ := getI_some hg
   have k0 : 0 ≤ i := by omega
   have k1 : i < n := by omega
   have rs : ∀ x, reached (st.1.set i.toNat 0, st.2 ++ [i]) x ↔ x = i ∨ reached st x := fun x => reached_set h.len k0 k1 (Int.le_refl 0)
   rw [if_pos (show (some true).getD false = true from rfl)]
   refine ⟨by simp [h.len], fun x hx => ?_, fun x hx => ?_, fun x hx => ?_, fun x hx ho => ?_⟩
   ·rcases List.mem_append.1 hx with hx | hx
    ·have := h.inq x hx
     refine ⟨this.1, this.2.1, (rs x).2 (.inr this.2.2.1), ?_⟩
     rw [far_set h.len k0 k1 this.1]
     split
     ·rfl
     ·exact this.2.2.2
    ·simp only [List.mem_singleton] at hx
     subst hx
     exact ⟨k0, k1, (rs x).2 (.inl rfl), by rw [far_set h.len k0 k1 k0, if_pos rfl]⟩
   ·rcases (rs x).1 hx with hx | hx
    ·subst hx; exact List.mem_append.2 (.inr (by simp))
    ·exact List.mem_append.2 (.inl (h.all x hx))
   ·rcases (rs x).1 hx with hx | hx
    ·subst hx; exact ⟨hi, hg⟩
    ·exact h.one x hx
   ·rcases List.mem_append.1 hx with hx | hx
    ·exact (rs x).2 (.inr (h.done x hx ho))
    ·simp only [List.mem_singleton] at hx
     subst hx
     exact (rs x).2 (.inl rfl)
theorem BS.fold {m : DMap} {op : List Bool} {src : List Int} {n : Nat} (hop : op.length = n) : ∀ (l seen : List Int) (st : St2), (∀ i ∈ l, i ∈ src) → BS m op src n seen st → BS m op src n (seen ++ l) (l.foldl (seedB op) st)
 | [], seen, st, _, h => by simpa using h
 | i :: l, seen, st, hl, h => by
  have := BS.fold hop l (seen ++ [i]) _ (fun j hj => hl j (by simp [hj])) (h.seed hop (hl i (by simp)))
  simpa using this
theorem BS.queue {m : DMap} {op : List Bool} {src : List Int} {n : Nat} {st : St2} (h : BS m op src n src st) : BQ m op src n 0 st := by
 refine ⟨h.len, fun i hi => ⟨(h.inq i hi).1, (h.inq i hi).2.1, (h.inq i hi).2.2.1⟩, h.all, fun p q x y _ hx hy => ?_, fun x c hc hx => ?_, fun p x hp => by omega, fun i hi => ?_, fun i hi ho => ?_⟩
 ·rw [(h.inq x (mem_of_get hx)).2.2.2, (h.inq y (mem_of_get hy)).2.2.2]; exact Int.le_refl 0
 ·rw [(h.inq x hx).2.2.2, (h.inq c (mem_of_get hc)).2.2.2]; omega
 ·rw [(h.inq i (h.all i hi)).2.2.2]
  exact h.one i hi
 ·have := h.done i hi ho
  exact ⟨this, (h.inq i (h.all i this)).2.2.2⟩
theorem BQ.run {m : DMap} {op : List Bool} {src : List Int} {n : Nat} (hop : op.length = n) : ∀ (f a : Nat) (st : St2), totB st ≤ a + f → BI n src a st → BQ m op src n a st → ∃ b, (runB m op f a st).2.length ≤ b ∧ BQ m op src n b (runB m op f a st)
 | 0, a, st, ht, _, h => ⟨a, by unfold runB; unfold totB at ht; omega, h⟩
 | f + 1, a, st, ht, hb, h => by
  unfold runB
  split
  ·rename_i ha
   have hs := hb.step (m := m) hop ha
   exact BQ.run hop f (a + 1) _ (by omega) hs.1 (h.step hop ha)
  ·exact ⟨a, by omega, h⟩
theorem spread_queue (m : DMap) (op : List Bool) (src : List Int) : ∃ b st, spreadL m op src = st.1 ∧ st.2.length ≤ b ∧ BQ m op src op.length b st := by
 have hi := (seeds_ok (op := op) (n := op.length) (src := src) rfl src _ (fun _ h => h) (BI.init op.length src)).1
 have h0 : BS m op src op.length [] (List.replicate op.length (-1), []) := by
  have nr : ∀ i, ¬ reached (List.replicate op.length (-1), []) i := fun i hr => by
   obtain ⟨v, h1, h2, _⟩ := reached_far hr
   obtain ⟨k, _, hx, _⟩ := getI_some h1
   have := List.eq_of_mem_replicate (mem_of_get hx)
   omega
  exact ⟨by simp, fun i hi => (by cases hi), fun i hi => absurd hi (nr i), fun i hi => absurd hi (nr i), fun i hi => (by cases hi)⟩
 have hs := BS.fold rfl src [] _ (fun _ h => h) h0
 rw [List.nil_append] at hs
 obtain ⟨b, h1, h2⟩ := BQ.run (m := m) rfl (totB (seedsL op src)) 0 (seedsL op src) (by omega) hi hs.queue
 exact ⟨b, _, rfl, h1, h2⟩
theorem spread_le {m : DMap} {op : List Bool} {src : List Int} {d : Nat} {k : Int} (h : reachN m op src d k) : ∃ v, getI (spreadL m op src) k = some v ∧ 0 ≤ v ∧ v ≤ d := by
 obtain ⟨b, st, he, hb, hq⟩ := spread_queue m op src
 have key : ∀ (d : Nat) (k : Int), reachN m op src d k → reached st k ∧ farL st k ≤ d := by
  intro d
  induction d with
  | zero =>
   intro k h
   have := hq.src0 k h.1 h.2
   exact ⟨this.1, by omega⟩
  | succ d ih =>
   intro k h
   obtain ⟨j, hj, hk, ho⟩ := h
   have h1 := ih j hj
   obtain ⟨p, hp, hpx⟩ := List.mem_iff_getElem.1 (hq.all j h1.1)
   have := hq.low p j (by omega) (by rw [List.getElem?_eq_getElem hp, hpx]) k hk ho
   exact ⟨this.1, by omega⟩
 have := key d k h
 obtain ⟨v, h1, h2, h3⟩ := reached_far this.1
 rw [he]
 exact ⟨v, h1, h2, by omega⟩
theorem spread_one {m : DMap} {op : List Bool} {src : List Int} {k v : Int} (h : getI (spreadL m op src) k = some v) (h0 : 0 ≤ v) : reachN m op src v.toNat k := by
 obtain ⟨b, st, he, hb, hq⟩ := spread_queue m op src
 rw [he] at h
 obtain ⟨j, hj, _⟩ := getI_some h
 have hr : reached st k := ⟨by omega, by rw [h]; exact h0⟩
 have := hq.one k hr
 have hf : farL st k = v := by unfold farL; rw [h]; rfl
 rwa [hf] at this
theorem hexL_idx {m : DMap} {h : DHex} (h0 : 0 ≤ idxL m h) : hexL m (idxL m h) = h := by
 unfold idxL at *
 split at h0
 ·rename_i hc
  rw [if_pos hc]
  simp only [Bool.and_eq_true, inB_iff] at hc
  obtain ⟨⟨a, b⟩, c, d⟩ := hc
  obtain ⟨q, r⟩ := h
  dsimp only at a b c d h0 ⊢
  unfold hexL
  rw [Int.tmod_eq_emod_of_nonneg h0, Int.tdiv_eq_ediv_of_nonneg h0]
  have e : r * m.Width + q = q + r * m.Width := by omega
  rw [e, Int.add_mul_emod_self_right, Int.add_mul_ediv_right _ _ (by omega), Int.emod_eq_of_lt a (by omega), Int.ediv_eq_zero_of_lt a (by omega)]
  simp
 ·omega
theorem idx_hexL {m : DMap} {i : Int} (hw : 0 < m.Width) (h0 : 0 ≤ i) (h1 : i < m.Width * m.Height) : idxL m (hexL m i) = i := by
 unfold idxL hexL
 rw [Int.tmod_eq_emod_of_nonneg h0, Int.tdiv_eq_ediv_of_nonneg h0]
 dsimp only
 have a := Int.emod_nonneg i (show m.Width ≠ 0 by omega)
 have b := Int.emod_lt_of_pos i hw
 have c : 0 ≤ i / m.Width := Int.ediv_nonneg h0 (Int.le_of_lt hw)
 have d : i / m.Width < m.Height := Int.ediv_lt_of_lt_mul hw (by rwa [Int.mul_comm] at h1)
 rw [if_pos (by simp only [Bool.and_eq_true, inB_iff]; omega)]
 have := Int.emod_add_mul_ediv i m.Width
 rw [Int.mul_comm] at this
 omega
theorem step_back (h : DHex) {d : Int} (hd : d ∈ dl) : ∃ e ∈ dl, stepL (stepL h d 1) e 1 = h := by
 obtain ⟨q, r⟩ := h
 simp only [dl, List.mem_cons, List.not_mem_nil, or_false] at hd
 rcases hd with h | h | h | h | h | h <;> subst h
 ·exact ⟨3, by simp [dl], by simp [stepL, nthI, dq, dr]; omega⟩
 ·exact ⟨4, by simp [dl], by simp [stepL, nthI, dq, dr]; omega⟩
 ·exact ⟨5, by simp [dl], by simp [stepL, nthI, dq, dr]; omega⟩
 ·exact ⟨0, by simp [dl], by simp [stepL, nthI, dq, dr]; omega⟩
 ·exact ⟨1, by simp [dl], by simp [stepL, nthI, dq, dr]; omega⟩
 ·exact ⟨2, by simp [dl], by simp [stepL, nthI, dq, dr]; omega⟩
theorem nb_step {m : DMap} {i k : Int} (hk : k ∈ nbL m i) : 0 ≤ k ∧ ∃ d ∈ dl, k = nextL m i d ∧ hexL m k = stepL (hexL m i) d 1 := by
 unfold nbL at hk
 rw [List.mem_filter, List.mem_map] at hk
 obtain ⟨⟨d, hd, rfl⟩, hk0⟩ := hk
 have hk0 : 0 ≤ nextL m i d := by simpa using hk0
 refine ⟨hk0, d, hd, rfl, ?_⟩
 unfold nextL at hk0 ⊢
 exact hexL_idx hk0
theorem nb_symm {m : DMap} {i k : Int} (hw : 0 < m.Width) (h0 : 0 ≤ i) (h1 : i < m.Width * m.Height) (hk : k ∈ nbL m i) : i ∈ nbL m k := by
 obtain ⟨k0, d, hd, rfl, he⟩ := nb_step hk
 obtain ⟨e, he1, he2⟩ := step_back (hexL m i) hd
 unfold nbL
 rw [List.mem_filter, List.mem_map]
 refine ⟨⟨e, he1, ?_⟩, by simpa using h0⟩
 unfold nextL at he ⊢
 rw [he, he2, idx_hexL hw h0 h1]
theorem reach_open {m : DMap} {op : List Bool} {src : List Int} {d : Nat} {k : Int} (h : reachN m op src d k) : getI op k = some true := by
 cases d with
 | zero => exact h.2
 | succ d =>
  obtain ⟨_, _, _, h⟩ := h
  exact h
structure MapO (m : DMap) (op : List Bool) : Prop where
 w : 0 < m.Width
 n : (op.length : Int) = m.Width * m.Height
theorem MapO.back {m : DMap} {op : List Bool} (h : MapO m op) {c i : Int} {b : Bool} (hc : getI op c = some b) (hi : i ∈ nbL m c) : c ∈ nbL m i := by
 obtain ⟨k, rfl, hk, _⟩ := getI_some hc
 have := h.n
 have hl := (List.getElem?_eq_some_iff.1 hk).1
 exact nb_symm h.w (by omega) (by omega) hi
theorem reach_cat {m : DMap} {op : List Bool} {src : List Int} {a : Int} (hm : MapO m op) : ∀ (b : Nat) (i : Int) (n : Nat), reachN m op [a] b i → reachN m op src n i → reachN m op src (n + b) a
 | 0, i, n, h, h2 => by
  have : i = a := by simpa using h.1
  subst this
  exact h2
 | b + 1, i, n, ⟨c, hc, hi, ho⟩, h2 => by
  have oc := reach_open hc
  have := reach_cat hm b c (n + 1) hc ⟨i, h2, hm.back oc hi, oc⟩
  rwa [show n + 1 + b = n + (b + 1) by omega] at this
theorem reach_src {m : DMap} {op : List Bool} {src : List Int} {a : Int} (hm : MapO m op) : ∀ (n : Nat) (k : Int) (b : Nat), reachN m op src n k → reachN m op [a] b k → ∃ s ∈ src, reachN m op [a] (b + n) s
 | 0, k, b, h, h2 => ⟨k, h.1, h2⟩
 | n + 1, k, b, ⟨c, hc, hk, ho⟩, h2 => by
  have oc := reach_open hc
  have := reach_src hm n c (b + 1) hc ⟨k, h2, hm.back oc hk, oc⟩
  rwa [show b + 1 + n = b + (n + 1) by omega] at this
theorem far_sum {m : DMap} {op : List Bool} {src : List Int} {a k v w : Int} (hm : MapO m op) (h : getI (spreadL m op src) k = some v) (hv : 0 ≤ v) (h2 : getI (spreadL m op [a]) k = some w) (hw : 0 ≤ w) : ∃ n, getI (spreadL m op src) a = some n ∧ 0 ≤ n ∧ n ≤ v + w := by
 obtain ⟨n, h1, h2, h3⟩ := spread_le (reach_cat hm _ _ _ (spread_one h2 hw) (spread_one h hv))
 exact ⟨n, h1, h2, by omega⟩
theorem far_edge {m : DMap} {op : List Bool} {src : List Int} {j k v : Int} (h : getI (spreadL m op src) j = some v) (hv : 0 ≤ v) (hk : k ∈ nbL m j) (ho : getI op k = some true) : ∃ w, getI (spreadL m op src) k = some w ∧ 0 ≤ w ∧ w ≤ v + 1 := by
 obtain ⟨n, h1, h2, h3⟩ := spread_le (d := v.toNat + 1) ⟨j, spread_one h hv, hk, ho⟩
 exact ⟨n, h1, h2, by omega⟩
theorem far_zero {m : DMap} {op : List Bool} {src : List Int} {k : Int} (hk : k ∈ src) (ho : getI op k = some true) : getI (spreadL m op src) k = some 0 := by
 obtain ⟨n, h1, h2, h3⟩ := spread_le (m := m) (d := 0) ⟨hk, ho⟩
 rw [h1]
 congr 1
 omega
theorem far_open {m : DMap} {op : List Bool} {src : List Int} {k v : Int} (h : getI (spreadL m op src) k = some v) (hv : 0 ≤ v) : getI op k = some true := reach_open (spread_one h hv)
theorem zero_src {m : DMap} {op : List Bool} {src : List Int} {k : Int} (h : getI (spreadL m op src) k = some 0) : k ∈ src := (spread_one h (by omega)).1
theorem far_start {m : DMap} {op : List Bool} {src : List Int} {a n : Int} (hm : MapO m op) (h : getI (spreadL m op src) a = some n) (hn : 0 ≤ n) : ∃ s ∈ src, getI (spreadL m op [a]) s = some n := by
 have ha := far_open h hn
 obtain ⟨s, hs, hr⟩ := reach_src (a := a) hm _ a 0 (spread_one h hn) ⟨by simp, ha⟩
 obtain ⟨v, h1, h2, h3⟩ := spread_le hr
 obtain ⟨q, q1, q2, q3⟩ := far_sum hm (far_zero (m := m) hs (far_open h1 h2)) (by omega) h1 h2
 rw [h] at q1
 cases q1
 refine ⟨s, hs, ?_⟩
 rw [h1]
 congr 1
 omega
theorem far_next {m : DMap} {op : List Bool} {src : List Int} {j w : Int} (hm : MapO m op) (h : getI (spreadL m op src) j = some w) (hw : 1 ≤ w) : ∃ k ∈ nbL m j, getI (spreadL m op src) k = some (w - 1) := by
 have hr := spread_one h (by omega)
 obtain ⟨d, hd⟩ : ∃ d, w.toNat = d + 1 := ⟨w.toNat - 1, by omega⟩
 rw [hd] at hr
 obtain ⟨c, hc, hj, ho⟩ := hr
 obtain ⟨v, h1, h2, h3⟩ := spread_le hc
 have oc := reach_open hc
 obtain ⟨q, q1, q2, q3⟩ := far_edge h1 h2 hj ho
 rw [h] at q1
 cases q1
 refine ⟨c, hm.back oc hj, ?_⟩
 rw [h1]
 congr 1
 omega
def okAt (m : DMap) (op : List Bool) (l : List Int) (n : Nat) : Bool := match l[n]? with
 | none => true
 | some i => (getI op i).getD false && (n == 0 || decide (i ∈ nbL m (l.getD (n - 1) 0)))
theorem fold_inv {α β : Type} (f : β → α → β) (Q : List α → β → Prop) (hs : ∀ pre x b, Q pre b → Q (pre ++ [x]) (f b x)) : ∀ (post pre : List α) (b : β), Q pre b → Q (pre ++ post) (post.foldl f b)
 | [], pre, b, h => by simpa using h
 | x :: r, pre, b, h => by
  have := fold_inv f Q hs r (pre ++ [x]) (f b x) (hs pre x b h)
  rw [List.append_assoc] at this
  exact this
def minW (p : Int → Bool) (l : List Int) : Int := l.foldl (fun best k => if p k && (decide (best < 0) || decide (k < best)) then k else best) (-1)
theorem minW_ok {p : Int → Bool} {l : List Int} (hl : ∀ k ∈ l, 0 ≤ k) (he : ∃ k ∈ l, p k = true) : minW p l ∈ l ∧ p (minW p l) = true ∧ ∀ k ∈ l, p k = true → minW p l ≤ k := by
 have key := fold_inv (fun best k => if p k && (decide (best < 0) || decide (k < best)) then k else best) (fun pre best => (∀ k ∈ pre, 0 ≤ k) → ((best = -1 ∧ ∀ k ∈ pre, p k = false) ∨ (0 ≤ best ∧ best ∈ pre ∧ p best = true ∧ ∀ k ∈ pre, p k = true → best ≤ k))) (fun pre x b ih hp => by
  have ih := ih fun k hk => hp k (List.mem_append_left _ hk)
  have hx := hp x (by simp)
  cases hpx : p x with
  | false =>
   simp only [Bool.false_and, Bool.false_eq_true, if_false]
   rcases ih with ⟨h1, h2⟩ | ⟨h1, h2, h3, h4⟩
   ·refine .inl ⟨h1, fun k hk => ?_⟩
    rcases List.mem_append.1 hk with hk | hk
    ·exact h2 k hk
    ·rw [List.mem_singleton.1 hk]; exact hpx
   ·refine .inr ⟨h1, List.mem_append_left _ h2, h3, fun k hk hk2 => ?_⟩
    rcases List.mem_append.1 hk with hk | hk
    ·exact h4 k hk hk2
    ·rw [List.mem_singleton.1 hk, hpx] at hk2; cases hk2
  | true =>
   simp only [Bool.true_and]
   rcases ih with ⟨h1, h2⟩ | ⟨h1, h2, h3, h4⟩
   ·rw [if_pos (by simp; omega)]
    refine .inr ⟨hx, by simp, hpx, fun k hk hk2 => ?_⟩
    rcases List.mem_append.1 hk with hk | hk
    ·rw [h2 k hk] at hk2; cases hk2
    ·rw [List.mem_singleton.1 hk]; omega
   ·by_cases hb : x < b
    ·rw [if_pos (by simp; omega)]
     refine .inr ⟨hx, by simp, hpx, fun k hk hk2 => ?_⟩
     rcases List.mem_append.1 hk with hk | hk
     ·have := h4 k hk hk2; omega
     ·rw [List.mem_singleton.1 hk]; omega
    ·rw [if_neg (by simp; omega)]
     refine .inr ⟨h1, List.mem_append_left _ h2, h3, fun k hk hk2 => ?_⟩
     rcases List.mem_append.1 hk with hk | hk
     ·exact h4 k hk hk2
     ·rw [List.mem_singleton.1 hk]; omega) l [] (-1) (fun _ => .inl ⟨rfl, fun k hk => (by cases hk)⟩)
 rw [List.nil_append] at key
 rcases key hl with ⟨_, h2⟩ | ⟨_, h2, h3, h4⟩
 ·obtain ⟨k, hk, hp⟩ := he
  rw [h2 k hk] at hp
  cases hp
 ·exact ⟨h2, h3, h4⟩
def srcW (left : List Int) (l : List Int) : Int := l.foldl (fun best i => if decide (0 ≤ (getI left i).getD 0) && (decide (best < 0) || decide ((getI left i).getD 0 < (getI left best).getD 0)) then i else best) (-1)
theorem srcW_ok {left l : List Int} {n : Int} (hl : ∀ k ∈ l, 0 ≤ k) (hr : ∀ (i j : Nat) (x y : Int), i < j → l[i]? = some x → l[j]? = some y → x < y) (hn : 0 ≤ n) (hb : ∀ k ∈ l, 0 ≤ (getI left k).getD 0 → n ≤ (getI left k).getD 0) (he : ∃ k ∈ l, (getI left k).getD 0 = n) :
  srcW left l ∈ l ∧ (getI left (srcW left l)).getD 0 = n ∧ ∀ k ∈ l, (getI left k).getD 0 = n → srcW left l ≤ k := by
 have key := fold_inv (fun best i => if decide (0 ≤ (getI left i).getD 0) && (decide (best < 0) || decide ((getI left i).getD 0 < (getI left best).getD 0)) then i else best)
  (fun pre best => (∃ post, l = pre ++ post) → ((best = -1 ∧ ∀ k ∈ pre, (getI left k).getD 0 < 0) ∨ (0 ≤ best ∧ best ∈ pre ∧ 0 ≤ (getI left best).getD 0 ∧ (∀ k ∈ pre, 0 ≤ (getI left k).getD 0 → (getI left best).getD 0 ≤ (getI left k).getD 0) ∧ ∀ k ∈ pre, (getI left k).getD 0 = (getI left best).getD 0 → best ≤ k))) (fun pre x b ih hp => by
  obtain ⟨post, hp⟩ := hp
  have ih := ih ⟨x :: post, by simpa using hp⟩
  have hx := hl x (by rw [hp]; simp)
  have hlt : ∀ k ∈ pre, k < x := fun k hk => by
   obtain ⟨i, hi, hix⟩ := List.mem_iff_getElem.1 hk
   refine hr i pre.length k x hi ?_ ?_
   ·rw [hp, List.append_assoc, List.getElem?_append_left hi, List.getElem?_eq_getElem hi, hix]
   ·rw [hp]; simp
  by_cases h0 : 0 ≤ (getI left x).getD 0
  ·rcases ih with ⟨h1, h2⟩ | ⟨h1, h2, h3, h4, h5⟩
   ·rw [if_pos (by simp [h0]; omega)]
    refine .inr ⟨hx, by simp, h0, fun k hk hk2 => ?_, fun k hk hk2 => ?_⟩
    ·rcases List.mem_append.1 hk with hk | hk
     ·have := h2 k hk; omega
     ·rw [List.mem_singleton.1 hk]; omega
    ·rcases List.mem_append.1 hk with hk | hk
     ·have := h2 k hk; omega
     ·rw [List.mem_singleton.1 hk]; omega
   ·by_cases hb : (getI left x).getD 0 < (getI left b).getD 0
    ·rw [if_pos (by simp [h0, hb])]
     refine .inr ⟨hx, by simp, h0, fun k hk hk2 => ?_, fun k hk hk2 => ?_⟩
     ·rcases List.mem_append.1 hk with hk | hk
      ·have := h4 k hk hk2; omega
      ·rw [List.mem_singleton.1 hk]; omega
     ·rcases List.mem_append.1 hk with hk | hk
      ·have := h4 k hk (by omega); omega
      ·rw [List.mem_singleton.1 hk]; omega
    ·rw [if_neg (by simp [hb]; omega)]
     refine .inr ⟨h1, List.mem_append_left _ h2, h3, fun k hk hk2 => ?_, fun k hk hk2 => ?_⟩
     ·rcases List.mem_append.1 hk with hk | hk
      ·exact h4 k hk hk2
      ·rw [List.mem_singleton.1 hk]; omega
     ·rcases List.mem_append.1 hk with hk | hk
      ·exact h5 k hk hk2
      ·rw [List.mem_singleton.1 hk]; have := hlt b h2; omega
  ·rw [if_neg (by simp; omega)]
   rcases ih with ⟨h1, h2⟩ | ⟨h1, h2, h3, h4, h5⟩
   ·refine .inl ⟨h1, fun k hk => ?_⟩
    rcases List.mem_append.1 hk with hk | hk
    ·exact h2 k hk
    ·rw [List.mem_singleton.1 hk]; omega
   ·refine .inr ⟨h1, List.mem_append_left _ h2, h3, fun k hk hk2 => ?_, fun k hk hk2 => ?_⟩
    ·rcases List.mem_append.1 hk with hk | hk
     ·exact h4 k hk hk2
     ·rw [List.mem_singleton.1 hk] at hk2; omega
    ·rcases List.mem_append.1 hk with hk | hk
     ·exact h5 k hk hk2
     ·rw [List.mem_singleton.1 hk] at hk2; omega) l [] (-1) (fun _ => .inl ⟨rfl, fun k hk => (by cases hk)⟩)
 rw [List.nil_append] at key
 rcases key ⟨[], by simp⟩ with ⟨_, h2⟩ | ⟨_, h2, h3, h4, h5⟩
 ·obtain ⟨k, hk, hp⟩ := he
  have := h2 k hk
  omega
 ·obtain ⟨k, hk, hp⟩ := he
  have h6 := h4 k hk (by omega)
  have h7 := hb _ h2 h3
  have h8 : (getI left (srcW left l)).getD 0 = n := by unfold srcW; omega
  refine ⟨h2, h8, fun j hj hjn => h5 j hj ?_⟩
  unfold srcW at h8
  rw [hjn, h8]
def nxtW (m : DMap) (left : List Int) (a : Int) : Int := minW (fun k => (getI left k).getD 0 == (getI left a).getD 0 - 1) (nbL m a)
def seqW (m : DMap) (left : List Int) (a : Int) : Nat → Int
 | 0 => a
 | t + 1 => nxtW m left (seqW m left a t)
def pathW (m : DMap) (left : List Int) (a : Int) (n : Nat) : List Int := (List.range (n + 1)).map (seqW m left a)
theorem getD_some {l : List Int} {k : Int} (h0 : 0 ≤ k) (h1 : k < l.length) : getI l k = some ((getI l k).getD 0) := by
 obtain ⟨x, hx⟩ := getI_ex (l := l) h0 h1
 rw [hx]
 rfl
theorem nb_area {m : DMap} {i k : Int} (h0 : 0 < m.Width) (h1 : 0 < m.Height) (hk : k ∈ nbL m i) : 0 ≤ k ∧ k < m.Width * m.Height := by
 obtain ⟨k0, d, _, rfl, _⟩ := nb_step hk
 exact ⟨k0, nextL_area h0 h1 i d⟩
structure WayOk (m : DMap) (op : List Bool) (src : List Int) (a n : Int) : Prop where
 o : MapO m op
 h : 0 < m.Height
 s : ∀ k ∈ src, 0 ≤ k ∧ k < op.length
 r : ∀ (i j : Nat) (x y : Int), i < j → src[i]? = some x → src[j]? = some y → x < y
 f : getI (spreadL m op src) a = some n
 n0 : 0 ≤ n
def w0 (m : DMap) (op : List Bool) (src : List Int) (a : Int) : Int := srcW (spreadL m op [a]) src
def wS (m : DMap) (op : List Bool) (src : List Int) (a : Int) (t : Nat) : Int := seqW m (spreadL m op [a]) (w0 m op src a) t
theorem WayOk.start {m : DMap} {op : List Bool} {src : List Int} {a n : Int} (w : WayOk m op src a n) : w0 m op src a ∈ src ∧ getI (spreadL m op [a]) (w0 m op src a) = some n ∧ ∀ k ∈ src, (getI (spreadL m op [a]) k).getD 0 = n → w0 m op src a ≤ k := by
 have hk : ∀ k ∈ src, getI (spreadL m op [a]) k = some ((getI (spreadL m op [a]) k).getD 0) := fun k hk => getD_some (w.s k hk).1 (by rw [spread_len]; exact (w.s k hk).2)
 have := srcW_ok (left := spreadL m op [a]) (l := src) (n := n) (fun k hk => (w.s k hk).1) w.r w.n0 (fun k h1 h2 => by
  have h3 := hk k h1
  have ho := far_open h3 h2
  obtain ⟨q, q1, q2, q3⟩ := far_sum w.o (far_zero (m := m) h1 ho) (by omega) h3 h2
  rw [w.f] at q1
  cases q1
  omega) (by
  obtain ⟨s, h1, h2⟩ := far_start w.o w.f w.n0
  exact ⟨s, h1, by rw [h2]; rfl⟩)
 refine ⟨this.1, ?_, this.2.2⟩
 have h1 := hk _ this.1
 rw [this.2.1] at h1
 exact h1
theorem WayOk.step {m : DMap} {op : List Bool} {src : List Int} {a n : Int} (w : WayOk m op src a n) {j : Int} {t : Nat} (ht : (t : Int) < n) (h1 : getI (spreadL m op [a]) j = some (n - t)) (h2 : getI (spreadL m op src) j = some (t : Int)) :
  nxtW m (spreadL m op [a]) j ∈ nbL m j ∧ getI (spreadL m op [a]) (nxtW m (spreadL m op [a]) j) = some (n - (t + 1 : Nat)) ∧ getI (spreadL m op src) (nxtW m (spreadL m op [a]) j) = some ((t + 1 : Nat) : Int)
   ∧ ∀ k ∈ nbL m j, (getI (spreadL m op [a]) k).getD 0 = n - (t + 1 : Nat) → nxtW m (spreadL m op [a]) j ≤ k := by
 obtain ⟨c, hc, hcv⟩ := far_next w.o h1 (by omega)
 have hm := minW_ok (p := fun k => (getI (spreadL m op [a]) k).getD 0 == (getI (spreadL m op [a]) j).getD 0 - 1) (l := nbL m j) (fun k hk => (nb_area w.o.w w.h hk).1) ⟨c, hc, by rw [hcv, h1]; simp⟩
 obtain ⟨m1, m2, m3⟩ := hm
 change nxtW m (spreadL m op [a]) j ∈ nbL m j at m1
 have ha := nb_area w.o.w w.h m1
 have hn := w.o.n
 have hv := getD_some (l := spreadL m op [a]) ha.1 (by rw [spread_len]; omega)
 have m2 : (getI (spreadL m op [a]) (nxtW m (spreadL m op [a]) j)).getD 0 = (getI (spreadL m op [a]) j).getD 0 - 1 := eq_of_beq m2
 rw [h1] at m2
 have m2 : (getI (spreadL m op [a]) (nxtW m (spreadL m op [a]) j)).getD 0 = n - (t + 1 : Nat) := by rw [m2]; simp only [Option.getD_some]; omega
 rw [m2] at hv
 have ho := far_open hv (by omega)
 obtain ⟨v, v1, v2, v3⟩ := far_edge h2 (by omega) m1 ho
 obtain ⟨q, q1, q2, q3⟩ := far_sum w.o v1 v2 hv (by omega)
 rw [w.f] at q1
 cases q1
 have : v = ((t + 1 : Nat) : Int) := by omega
 refine ⟨m1, hv, this ▸ v1, fun k hk hk2 => m3 k hk ?_⟩
 rw [h1, hk2]
 simp only [Option.getD_some, beq_iff_eq]
 omega
theorem WayOk.seq {m : DMap} {op : List Bool} {src : List Int} {a n : Int} (w : WayOk m op src a n) : ∀ t : Nat, (t : Int) ≤ n → getI (spreadL m op [a]) (wS m op src a t) = some (n - t) ∧ getI (spreadL m op src) (wS m op src a t) = some (t : Int)
 | 0, _ => by
  obtain ⟨h1, h2, _⟩ := w.start
  refine ⟨by show getI _ (w0 m op src a) = _; rw [h2]; simp, ?_⟩
  exact far_zero h1 (far_open h2 w.n0)
 | t + 1, ht => by
  obtain ⟨h1, h2⟩ := w.seq t (by omega)
  obtain ⟨_, s2, s3, _⟩ := w.step (by omega) h1 h2
  exact ⟨s2, s3⟩
theorem WayOk.nb {m : DMap} {op : List Bool} {src : List Int} {a n : Int} (w : WayOk m op src a n) {t : Nat} (ht : (t : Int) < n) : wS m op src a (t + 1) ∈ nbL m (wS m op src a t) := by
 obtain ⟨h1, h2⟩ := w.seq t (by omega)
 exact (w.step ht h1 h2).1
theorem WayOk.self {m : DMap} {op : List Bool} {src : List Int} {a n : Int} (w : WayOk m op src a n) : getI (spreadL m op [a]) a = some 0 := far_zero (by simp) (far_open w.f w.n0)
theorem WayOk.more {m : DMap} {op : List Bool} {src : List Int} {a n : Int} (w : WayOk m op src a n) {t : Nat} (ht : (t : Int) < n) : wS m op src a t ≠ a := fun h => by
 have h1 := (w.seq t (by omega)).1
 rw [h, w.self] at h1
 have := Option.some.inj h1
 omega
theorem WayOk.end_ {m : DMap} {op : List Bool} {src : List Int} {a n : Int} (w : WayOk m op src a n) : wS m op src a n.toNat = a := by
 have hn := w.n0
 have h1 := (w.seq n.toNat (by omega)).1
 rw [show n - (n.toNat : Int) = 0 by omega] at h1
 simpa using zero_src h1
def wayW (m : DMap) (op : List Bool) (src : List Int) (a n : Int) : List Int := pathW m (spreadL m op [a]) (w0 m op src a) n.toNat
theorem wayW_get {m : DMap} {op : List Bool} {src : List Int} {a n : Int} {t : Nat} (ht : t ≤ n.toNat) : (wayW m op src a n)[t]? = some (wS m op src a t) := by
 unfold wayW pathW
 rw [List.getElem?_map, List.getElem?_range (by omega)]
 rfl
theorem wayW_len (m : DMap) (op : List Bool) (src : List Int) (a n : Int) : (wayW m op src a n).length = n.toNat + 1 := by simp [wayW, pathW]
theorem WayOk.ok {m : DMap} {op : List Bool} {src : List Int} {a n : Int} (w : WayOk m op src a n) (t : Nat) : okAt m op (wayW m op src a n) t = true := by
 have hn := w.n0
 unfold okAt
 by_cases ht : t ≤ n.toNat
 ·rw [wayW_get ht]
  have h1 := (w.seq t (by omega)).1
  dsimp only
  rw [far_open h1 (by omega)]
  cases t with
  | zero => rfl
  | succ t =>
   have := w.nb (t := t) (by omega)
   have hg : (wayW m op src a n).getD t 0 = wS m op src a t := by rw [List.getD_eq_getElem?_getD, wayW_get (by omega)]; rfl
   rw [show t + 1 - 1 = t by omega, hg]
   simp [this]
 ·rw [List.getElem?_eq_none (by rw [wayW_len]; omega)]
theorem getI_setB {l : List Bool} {k i : Int} {z : Bool} (h0 : 0 ≤ k) (h1 : k < l.length) : getI (l.set k.toNat z) i = if i = k then some z else getI l i := by
 unfold getI
 by_cases hi : 0 ≤ i
 ·rw [if_pos hi, if_pos hi, List.getElem?_set]
  by_cases hik : i = k
  ·subst hik
   rw [if_pos rfl, if_pos rfl, if_pos (by omega)]
  ·rw [if_neg (by omega), if_neg hik]
 ·rw [if_neg hi, if_neg hi, if_neg (by omega)]
theorem WayOk.off {m : DMap} {op : List Bool} {src : List Int} {a n : Int} (w : WayOk m op src a n) {i : Int} (h0 : 0 ≤ i) (h1 : i < op.length) (hi : i ∉ wayW m op src a n) : ∃ v, getI (spreadL m (op.set i.toNat false) src) a = some v ∧ 0 ≤ v ∧ v ≤ n := by
 have hn := w.n0
 have hr : ∀ t : Nat, (t : Int) ≤ n → reachN m (op.set i.toNat false) src t (wS m op src a t) := by
  intro t
  have hop : ∀ t : Nat, (t : Int) ≤ n → getI (op.set i.toNat false) (wS m op src a t) = some true := fun t ht => by
   rw [getI_setB h0 h1, if_neg (fun e => hi (by rw [← e]; exact List.mem_of_getElem? (wayW_get (by omega))))]
   exact far_open (w.seq t ht).1 (by omega)
  induction t with
  | zero => exact fun ht => ⟨w.start.1, hop 0 ht⟩
  | succ t ih => exact fun ht => ⟨_, ih (by omega), w.nb (by omega), hop (t + 1) ht⟩
 have := hr n.toNat (by omega)
 rw [w.end_] at this
 obtain ⟨v, v1, v2, v3⟩ := spread_le this
 exact ⟨v, v1, v2, by omega⟩
theorem rising_tail {a : Int} {l : List Int} (h : risingB (a :: l) = true) : risingB l = true ∧ ∀ x ∈ l, a < x := by
 induction l generalizing a with
 | nil => exact ⟨rfl, fun x hx => (by cases hx)⟩
 | cons b l ih =>
  unfold risingB at h
  rw [Bool.and_eq_true, decide_eq_true_eq] at h
  refine ⟨h.2, fun x hx => ?_⟩
  rcases List.mem_cons.1 hx with e | hx
  ·omega
  ·have := (ih h.2).2 x hx
   omega
def supB (b : DBoard) (s : DState) (k : Int) (src : List Int) : Bool := (gameB b s && inB 0 ((s.Units.length : Int) - 1) k) && srcB b src
structure SupG (b : DBoard) (s : DState) (k : Int) (src : List Int) (u : DUnit) : Prop where
 g : StateG b s
 q : srcB b src = true
 hu : getI s.Units k = some u
 m : u ∈ s.Units
theorem SupG.of {b : DBoard} {s : DState} {k : Int} {src : List Int} (h : supB b s k src = true) (hn : BoardN b) : ∃ u, SupG b s k src u := by
 unfold supB at h
 rw [Bool.and_eq_true, Bool.and_eq_true, inB_iff] at h
 obtain ⟨⟨hg, h0, h1⟩, hq⟩ := h
 obtain ⟨u, hu⟩ := getI_ex (l := s.Units) h0 (by omega)
 obtain ⟨_, _, hx, _⟩ := getI_some hu
 exact ⟨u, StateG.ofB hg hn, hq, hu, mem_of_get hx⟩
theorem SpreadOk.set {m : DMap} {op : List Bool} {src : List Int} (h : SpreadOk m op src) (i : Nat) (z : Bool) : SpreadOk m (op.set i z) src :=
 ⟨by rw [List.length_set]; exact h.n, h.w, by rw [List.length_set]; exact h.l, fun k hk => by rw [List.length_set]; exact h.s k hk, h.q, h.b⟩
theorem giveUp_at {α : Type} {σ : Store} {c : α → List AV} {e : Nat} (h : COk c e) {id : Id} {fr : Bool} {l : List α} {cap : Nat} (hb : σ.get? id = some (rowB fr false e c l)) : giveUp σ (.own id none 0 l.length cap) = some (slc c l) := by
 have := giveN h (n := l.length) (cap := cap) (Nat.le_refl _) hb
 rwa [List.take_length] at this
theorem haF {α : Type} {c : α → List AV} {e : Nat} (hc : COk c e) {σ : Store} {id : Id} {l r : List α} {cap : Nat} (hb : σ.get? id = some (rowB true false e c (l ++ r))) (hcap : l.length ≤ cap) : handIn false σ (.own id none 0 l.length cap) = some (slc c l, σ.del id, [id]) := by
 simp only [handIn, hb, rowB]
 by_cases hr : ((l ++ r).flatMap c).length = l.length * e
 ·rw [if_pos ⟨trivial, trivial, trivial, hr, hcap⟩]
  have h2 : (l ++ r).flatMap c = l.flatMap c := by
   rw [List.flatMap_append] at hr ⊢
   rw [List.length_append, flat_len hc.len] at hr
   have : (r.flatMap c).length = 0 := by omega
   rw [List.eq_nil_of_length_eq_zero this, List.append_nil]
  simp only [Bool.false_eq_true, if_false, h2]
  rfl
 ·rw [if_neg (fun h => hr h.2.2.2.1), if_pos ⟨trivial, trivial, trivial, trivial, by rw [flat_len hc.len, List.length_append]; exact Nat.mul_le_mul_right _ (Nat.le_add_right _ _), hcap⟩]
  simp only [Bool.false_eq_true, if_false]
  rw [flat_take hc.len, List.take_left']
  ·rfl
  ·rfl
theorem inj_bs2 : Inj fun a : DBoard × DState => AV.tup [AV.agg [slc cTerrain a.fst.Rules.Terrains, slc cKind a.fst.Rules.Kinds, I a.fst.Rules.Stack, I a.fst.Rules.River, I a.fst.Rules.Road, I a.fst.Rules.Supply, I a.fst.Rules.Turns, I a.fst.Map.Width, I a.fst.Map.Height, slc cI a.fst.Map.Terrain, slc cI a.fst.Map.Rivers, slc cI a.fst.Map.Roads], AV.agg [I a.snd.Turn, I a.snd.Weather, slc cUnit a.snd.Units]] := fun a b h => by
 injection h with h
 injection h with h1 h
 injection h with h2 h
 exact Prod.ext (inj_board _ _ h1) (inj_state _ _ h2)
abbrev CloseQ (n : Int) (v : (DBoard × DState) × Dl1Cur) : Prop := BoardN v.1.1 ∧ 1 ≤ v.1.2.Units.length ∧ v.1.2.Units.length ≤ 20 ∧ Cu v.2 n
theorem l_sc_close_L6_1 (b : DBoard) (hb : BoardN b) (a2 a3 a4 a5 a6 a7 a8 s0 s1 tu we : Int) : ∀ (k : Nat) (l : List DUnit) (c : Dl1Cur) (n : Int), 1 ≤ l.length → l.length + k ≤ 20 → Cu c n → n ≤ Far - 1000 - 100 * k →
  ∃ v, L_sc_close_L6_1 l c a2 a3 a4 a5 a6 a7 a8 s0 s1 b tu we 0 l.length l.length k = some (en_sc_close v) ∧ CloseQ (n + 100 * k) v := by
 intro k
 have fin : ∀ (k : Nat) (l : List DUnit) (c : Dl1Cur) (n : Int), 1 ≤ l.length → l.length ≤ 20 → Cu c n → OK (P_sc_close_L6_1 l c a2 a3 a4 a5 a6 a7 a8 s0 s1 b tu we 0 l.length l.length 0) fun r => ∃ v, r = en_sc_close v ∧ CloseQ (n + 100 * k) v := by
  intro k l c n h1 h2 hc
  unfold P_sc_close_L6_1
  rw [if_neg (by simp)]
  exact OK.cast inj_bs2 (a := (b, ⟨tu, we, l⟩)) (gvTup (gvVs_cons rfl (gvVs_cons (gvState' rfl rfl) rfl))) (OK.some ⟨((b, ⟨tu, we, l⟩), c), rfl, hb, h1, h2, hc.to⟩)
 induction k with
 | zero =>
  intro l c n h1 h2 hc hn
  exact okA (e_sc_close_L6_1 _ _ _ _ _ _ _ _ _ _ _ _ _ _ _ _ _ _) (fin 0 l c n h1 (by omega) hc)
 | succ k ih =>
  intro l c n h1 h2 hc hn
  unfold Far at hn
  refine okA (e_sc_close_L6_1 _ _ _ _ _ _ _ _ _ _ _ _ _ _ _ _ _ _) ?_
  have hfin := fin (k + 1) l c n h1 (by omega) hc
  unfold P_sc_close_L6_1 at hfin ⊢
  rw [if_neg (by simp)] at hfin
  have hw : IntKind.wrap .i64 (((k + 1 : Nat) : Int) - 1) = (k : Int) := by rw [wrap_id (by omega) (by omega)]; omega
  rw [if_pos (by simp), hw]
  refine OK.ite (fun h12 => ?_) (fun _ => hfin)
  refine koA inj_sc_pick (o_sc_pick _ _ _ hc (by unfold Far; omega)) fun p hp => ?_
  rw [cast_of inj_spec_mSize (c_spec_mSize _)]
  refine koA inj_sc_pick (o_sc_pick _ _ _ hp.2.2 (by unfold Far; omega)) fun q hq => ?_
  rw [apR_eq rt_cUnit (l := l) (xs := [⟨p.1, 0, q.1, 1⟩]) rfl (Src.row (n := 1) ok_cUnit rfl rfl) rfl rfl (by simp; omega) (by simp; omega) rfl]
  refine OK.cast inj_state (gvState (Nat.le_refl _) rfl) ?_
  rw [List.take_length]
  rw [cast_of inj_spec_sGood (c_spec_sGood _ _ hb (by show (l ++ [_]).length < _; simp; omega))]
  have hx : (l ++ [(⟨p.1, 0, q.1, 1⟩ : DUnit)])[l.length]? = some ⟨p.1, 0, q.1, 1⟩ := by simp
  refine OK.ite (fun _ => ?_) (fun _ => ?_)
  ·rw [oxA_at rt_cUnit (j := l.length) (by rw [wrap_id (by simp <;> omega) (by simp <;> omega)]; simp) (by simp)]
   rw [stF (f := 2) (off := l.length * 4 + 2) (l := l ++ [(⟨p.1, 0, q.1, 1⟩ : DUnit)]) ok_cUnit rfl rfl hx rfl (by omega) rfl (y' := (⟨p.1, 0, -1, 1⟩ : DUnit)) rfl]
   obtain ⟨r, q1, q2⟩ := ih ((l ++ [(⟨p.1, 0, q.1, 1⟩ : DUnit)]).set l.length ⟨p.1, 0, -1, 1⟩) q.2 (n + 100) (by simp) (by simp; omega) hq.2.2.to (by unfold Far; omega)
   rw [List.length_set] at q1
   exact ⟨_, q1, r, rfl, q2.1, q2.2.1, q2.2.2.1, q2.2.2.2.to⟩
  ·obtain ⟨r, q1, q2⟩ := ih (l ++ [(⟨p.1, 0, q.1, 1⟩ : DUnit)]) q.2 (n + 100) (by simp) (by simp; omega) hq.2.2.to (by unfold Far; omega)
   exact ⟨_, q1, r, rfl, q2.1, q2.2.1, q2.2.2.1, q2.2.2.2.to⟩
theorem gvB {σ : Store} {ts : List DTerrain} {ks : List DKind} {a b c d e w h : Int} {ter : List Int} {id : Id} {fr : Bool} (hb : σ.get? id = some (rowB fr false 1 cI ter)) :
  giveUpV σ (.agg [slc cTerrain ts, slc cKind ks, I a, I b, I c, I d, I e, I w, I h, .own id none 0 ter.length ter.length, .emp, .emp]) = some (.agg (cBoard ⟨⟨ts, ks, a, b, c, d, e⟩, ⟨w, h, ter, [], []⟩⟩)) :=
 gvV (gvL_cons rfl (gvL_cons rfl (gvL_cons rfl (gvL_cons rfl (gvL_cons rfl (gvL_cons rfl (gvL_cons rfl (gvL_cons rfl (gvL_cons rfl (gvL_cons (giveUp_at ok_cI hb) (gvL_cons rfl (gvL_cons rfl rfl))))))))))))
theorem gvM {σ : Store} {w h : Int} {ter : List Int} {id : Id} {fr : Bool} (hb : σ.get? id = some (rowB fr false 1 cI ter)) :
  giveUpV σ (.agg [I w, I h, .own id none 0 ter.length ter.length, .emp, .emp]) = some (.agg (cMap ⟨w, h, ter, [], []⟩)) :=
 gvV (gvL_cons rfl (gvL_cons rfl (gvL_cons (giveUp_at ok_cI hb) (gvL_cons rfl (gvL_cons rfl rfl)))))
theorem l_sc_close_L6 (ter : List Int) (hter : ter.length ≤ 100) (ts : List DTerrain) (ks : List DKind) (st ri ro su tn W H : Int) (hr : RulesN ⟨ts, ks, st, ri, ro, su, tn⟩) (a2 a3 a4 a5 a6 a7 a8 s0 s1 tu we : Int) : ∀ (k : Nat) (l : List DUnit) (c : Dl1Cur) (n : Int), 1 ≤ l.length → l.length + k ≤ 20 → Cu c n → n ≤ Far - 1000 - 100 * k →
  ∃ v, L_sc_close_L6 ter l c a2 a3 a4 a5 a6 a7 a8 s0 s1 ts ks st ri ro su tn W H tu we 0 l.length l.length k = some (en_sc_close v) ∧ CloseQ (n + 100 * k) v := by
 intro k
 have hb : BoardN ⟨⟨ts, ks, st, ri, ro, su, tn⟩, ⟨W, H, ter, [], []⟩⟩ := ⟨hr, ⟨by show ter.length < _; omega, by show ([] : List Int).length < _; simp, by show ([] : List Int).length < _; simp⟩⟩
 have fin : ∀ (k : Nat) (l : List DUnit) (c : Dl1Cur) (n : Int), 1 ≤ l.length → l.length ≤ 20 → Cu c n → OK (P_sc_close_L6 ter l c a2 a3 a4 a5 a6 a7 a8 s0 s1 ts ks st ri ro su tn W H tu we 0 l.length l.length 0) fun r => ∃ v, r = en_sc_close v ∧ CloseQ (n + 100 * k) v := by
  intro k l c n h1 h2 hc
  unfold P_sc_close_L6
  rw [if_neg (by simp)]
  exact OK.cast inj_bs2 (a := (⟨⟨ts, ks, st, ri, ro, su, tn⟩, ⟨W, H, ter, [], []⟩⟩, ⟨tu, we, l⟩)) (gvTup (gvVs_cons (gvB rfl) (gvVs_cons (gvState' rfl rfl) rfl))) (OK.some ⟨((⟨⟨ts, ks, st, ri, ro, su, tn⟩, ⟨W, H, ter, [], []⟩⟩, ⟨tu, we, l⟩), c), rfl, hb, h1, h2, hc.to⟩)
 induction k with
 | zero =>
  intro l c n h1 h2 hc hn
  exact okA (e_sc_close_L6 _ _ _ _ _ _ _ _ _ _ _ _ _ _ _ _ _ _ _ _ _ _ _ _ _ _ _) (fin 0 l c n h1 (by omega) hc)
 | succ k ih =>
  intro l c n h1 h2 hc hn
  unfold Far at hn
  refine okA (e_sc_close_L6 _ _ _ _ _ _ _ _ _ _ _ _ _ _ _ _ _ _ _ _ _ _ _ _ _ _ _) ?_
  have hfin := fin (k + 1) l c n h1 (by omega) hc
  unfold P_sc_close_L6 at hfin ⊢
  rw [if_neg (by simp)] at hfin
  have hw : IntKind.wrap .i64 (((k + 1 : Nat) : Int) - 1) = (k : Int) := by rw [wrap_id (by omega) (by omega)]; omega
  rw [if_pos (by simp), hw]
  refine OK.ite (fun h12 => ?_) (fun _ => hfin)
  refine koA inj_sc_pick (o_sc_pick _ _ _ hc (by unfold Far; omega)) fun p hp => ?_
  refine OK.cast inj_map (a := ⟨W, H, ter, [], []⟩) (gvM rfl) ?_
  rw [cast_of inj_spec_mSize (c_spec_mSize _)]
  refine koA inj_sc_pick (o_sc_pick _ _ _ hp.2.2 (by unfold Far; omega)) fun q hq => ?_
  rw [apR_eq rt_cUnit (l := l) (xs := [⟨p.1, 0, q.1, 1⟩]) rfl (Src.row (n := 1) ok_cUnit rfl rfl) rfl rfl (by simp; omega) (by simp; omega) rfl]
  refine OK.cast inj_board (a := ⟨⟨ts, ks, st, ri, ro, su, tn⟩, ⟨W, H, ter, [], []⟩⟩) (gvB rfl) ?_
  refine OK.cast inj_state (gvState (Nat.le_refl _) rfl) ?_
  rw [List.take_length]
  rw [cast_of inj_spec_sGood (c_spec_sGood _ _ hb (by show (l ++ [_]).length < _; simp; omega))]
  have hx : (l ++ [(⟨p.1, 0, q.1, 1⟩ : DUnit)])[l.length]? = some ⟨p.1, 0, q.1, 1⟩ := by simp
  refine OK.ite (fun _ => ?_) (fun _ => ?_)
  ·rw [oxA_at rt_cUnit (j := l.length) (by rw [wrap_id (by simp <;> omega) (by simp <;> omega)]; simp) (by simp)]
   rw [stF (f := 2) (off := l.length * 4 + 2) (l := l ++ [(⟨p.1, 0, q.1, 1⟩ : DUnit)]) ok_cUnit rfl rfl hx rfl (by omega) rfl (y' := (⟨p.1, 0, -1, 1⟩ : DUnit)) rfl]
   obtain ⟨r, q1, q2⟩ := ih ((l ++ [(⟨p.1, 0, q.1, 1⟩ : DUnit)]).set l.length ⟨p.1, 0, -1, 1⟩) q.2 (n + 100) (by simp) (by simp; omega) hq.2.2.to (by unfold Far; omega)
   rw [List.length_set] at q1
   exact ⟨_, q1, r, rfl, q2.1, q2.2.1, q2.2.2.1, q2.2.2.2.to⟩
  ·obtain ⟨r, q1, q2⟩ := ih (l ++ [(⟨p.1, 0, q.1, 1⟩ : DUnit)]) q.2 (n + 100) (by simp) (by simp; omega) hq.2.2.to (by unfold Far; omega)
   exact ⟨_, q1, r, rfl, q2.1, q2.2.1, q2.2.2.1, q2.2.2.2.to⟩
theorem o_sc_close (c : Dl1Cur) (n : Int) (hc : Cu c n) (hn : n ≤ Far - 500000) : ∃ v, A_sc_close c = some (en_sc_close v) ∧ CloseQ (n + 10000) v := by
 refine okA (e_sc_close _) ?_
 unfold Far at hn
 refine koA inj_sc_board (o2_sc_board _ _ hc (by unfold Far; omega)) fun r hr => ?_
 obtain ⟨b, c1⟩ := r
 obtain ⟨⟨hb, hk0⟩, hc1⟩ := hr
 dsimp only at hb hk0 hc1 ⊢
 have far : ∀ (c2 : Dl1Cur) (m : Int), m ≤ n + 3010 → Cu c2 m → OK (cast en_sc_state (A_sc_state c2 b) fun (v : DState × Dl1Cur) => cast en_sc_pick (A_sc_pick v.snd 4) fun (w : Int × Dl1Cur) => L_sc_close_L6_1 v.fst.Units w.snd 0 0 0 0 0 0 0 0 0 b v.fst.Turn v.fst.Weather 0 (List.length v.fst.Units) (List.length v.fst.Units) (IntKind.wrap IntKind.i64 (3 + w.fst))) fun r => ∃ v, r = en_sc_close v ∧ CloseQ (n + 10000) v := by
  intro c2 m hm hc2
  refine koA inj_sc_state (o_sc_state _ _ hk0 hb _ hc2 (by unfold Far; omega)) fun s hs => ?_
  obtain ⟨h2, h8, hc3⟩ := hs
  refine koA inj_sc_pick (o_sc_pick _ _ _ hc3 (by unfold Far; omega)) fun w hw => ?_
  obtain ⟨k, hk⟩ : ∃ k : Nat, 3 + w.1 = k := ⟨(3 + w.1).toNat, by omega⟩
  rw [wrap_id (by omega) (by omega), hk]
  obtain ⟨v, q1, q2⟩ := l_sc_close_L6_1 b hb 0 0 0 0 0 0 0 0 0 s.1.Turn s.1.Weather k s.1.Units w.2 (m + 2000 + 2) (by omega) (by omega) hw.2.2.to (by unfold Far; omega)
  exact ⟨_, q1, v, rfl, q2.1, q2.2.1, q2.2.2.1, q2.2.2.2.to⟩
 rw [cast_of inj_spec_mSize (c_spec_mSize _)]
 refine OK.ite (fun _ => ?_) (fun _ => far c1 _ (by omega) hc1)
 refine koA inj_sc_one (o_sc_one _ _ _ hc1 (by unfold Far; omega)) fun o ho => ?_
 refine OK.ite (fun _ => ?_) (fun _ => far o.2 _ (by omega) ho)
 rw [mkA_z rt_cI (z := 0) (by kernel_rfl) rfl (by omega) (by omega) (by omega)]
 have h9 : (List.replicate (9 : Int).toNat (0 : Int)).length = 9 := by simp
 generalize List.replicate (9 : Int).toNat (0 : Int) = ter at h9 ⊢
 refine OK.cast inj_board (a := ⟨⟨b.Rules.Terrains, b.Rules.Kinds, b.Rules.Stack, b.Rules.River, b.Rules.Road, b.Rules.Supply, b.Rules.Turns⟩, ⟨3, 3, ter, [], []⟩⟩) (gvB rfl) ?_
 have hb2 : BoardN ⟨⟨b.Rules.Terrains, b.Rules.Kinds, b.Rules.Stack, b.Rules.River, b.Rules.Road, b.Rules.Supply, b.Rules.Turns⟩, ⟨3, 3, ter, [], []⟩⟩ := ⟨hb.r, ⟨by show ter.length < _; omega, by show ([] : List Int).length < _; simp, by show ([] : List Int).length < _; simp⟩⟩
 refine koA inj_sc_state (o_sc_state _ ⟨⟨b.Rules.Terrains, b.Rules.Kinds, b.Rules.Stack, b.Rules.River, b.Rules.Road, b.Rules.Supply, b.Rules.Turns⟩, ⟨3, 3, ter, [], []⟩⟩ hk0 hb2 _ ho (by unfold Far; omega)) fun s hs => ?_
 obtain ⟨h2, h8, hc3⟩ := hs
 rw [gd_eq imm_cUnit]
 refine koA inj_sc_pick (o_sc_pick _ _ _ hc3 (by unfold Far; omega)) fun w hw => ?_
 obtain ⟨k, hk⟩ : ∃ k : Nat, 3 + w.1 = k := ⟨(3 + w.1).toNat, by omega⟩
 rw [wrap_id (by omega) (by omega), hk]
 obtain ⟨v, q1, q2⟩ := l_sc_close_L6 ter (by omega) b.Rules.Terrains b.Rules.Kinds b.Rules.Stack b.Rules.River b.Rules.Road b.Rules.Supply b.Rules.Turns 3 3 hb.r 0 0 0 0 0 0 0 0 0 s.1.Turn s.1.Weather k s.1.Units w.2 (n + 6000) (by omega) (by omega) hw.2.2.to (by unfold Far; omega)
 exact ⟨_, q1, v, rfl, q2.1, q2.2.1, q2.2.2.1, q2.2.2.2.to⟩
abbrev BeatQ (n : Int) (v : (DBoard × DState × Int) × Dl1Cur) : Prop := BoardN v.1.1 ∧ v.1.2.1.Units.length ≤ 20 ∧ Cu v.2 n
theorem l_sc_beaten_L4 (b : DBoard) (s : DState) (hb : BoardN b) (h1 : 1 ≤ s.Units.length) (h20 : s.Units.length ≤ 20) (c : Dl1Cur) (n : Int) (hc : Cu c n) (hn : n ≤ Far - 700000) (a2 a3 a4 a5 a6 a7 a8 s0 s1 : Int) : ∀ (m i : Nat) (u : Int), i + m = s.Units.length → 0 ≤ u → u < s.Units.length →
  ∃ v, L_sc_beaten_L4 c a2 a3 a4 a5 a6 a7 a8 s0 s1 b s u i = some (en_sc_beaten v) ∧ BeatQ (n + 21000) v := by
 unfold Far at hn
 have fin : ∀ (u : Int) (k : Nat), s.Units.length ≤ k → OK (P_sc_beaten_L4 c a2 a3 a4 a5 a6 a7 a8 s0 s1 b s u k) fun r => ∃ v, r = en_sc_beaten v ∧ BeatQ (n + 21000) v := by
  intro u k hk
  unfold P_sc_beaten_L4
  rw [if_neg (by simp; omega)]
  refine koA inj_sc_pick (o_sc_pick _ _ _ hc (by unfold Far; omega)) fun p hp => ?_
  refine OK.ite (fun _ => ?_) (fun _ => OK.ite (fun _ => ?_) (fun _ => ?_))
  ·refine OK.cast (slc_inj ok_cI) (a := [-1, (s.Units.length : Int)]) rfl ?_
   refine koA inj_sc_among (o_sc_among _ _ _ hp.2.2 (by unfold Far; omega) (by simp)) fun q hq => ?_
   exact OK.some ⟨((_, _, _), _), rfl, hb, h20, hq.2.to⟩
  ·refine koA inj_sc_game (o_sc_game _ _ hp.2.2 (by unfold Far; omega)) fun g hg => ?_
   exact OK.cast inj_bsi (a := (g.1.1, g.1.2, u)) (gvTup (gvVs_cons rfl (gvVs_cons (gvState' rfl rfl) (gvVs_cons rfl rfl)))) (OK.some ⟨((_, _, _), _), rfl, hg.1, hg.2.2.1, hg.2.2.2.to⟩)
  ·exact OK.some ⟨((_, _, _), _), rfl, hb, h20, hp.2.2.to⟩
 intro m
 induction m with
 | zero =>
  intro i u hi h0 hu
  exact okA (e_sc_beaten_L4 _ _ _ _ _ _ _ _ _ _ _ _ _ _) (fin u i (by omega))
 | succ m ih =>
  intro i u hi h0 hu
  refine okA (e_sc_beaten_L4 _ _ _ _ _ _ _ _ _ _ _ _ _ _) ?_
  have hf := fin u s.Units.length (Nat.le_refl _)
  unfold P_sc_beaten_L4 at hf ⊢
  rw [if_neg (by simp)] at hf
  obtain ⟨x, hx⟩ := getI_ex (l := s.Units) h0 hu
  rw [if_pos (by simp; omega), ixA_get sl_cUnit _ _ hx]
  refine OK.ite (fun _ => ?_) (fun _ => hf)
  rw [if_neg (by omega), wrap_id (n := u + 1) (by omega) (by omega), wrap_id (n := (i : Int) + 1) (by omega) (by omega)]
  have t0 := Int.tmod_nonneg (s.Units.length : Int) (show 0 ≤ u + 1 by omega)
  have t1 := Int.tmod_lt_of_pos (u + 1) (show (0 : Int) < s.Units.length by omega)
  obtain ⟨v, q1, q2⟩ := ih (i + 1) ((u + 1).tmod s.Units.length) (by omega) t0 t1
  exact ⟨_, q1, v, rfl, q2⟩
theorem o_sc_beaten (c : Dl1Cur) (n : Int) (hc : Cu c n) (hn : n ≤ Far - 800000) : ∃ v, A_sc_beaten c = some (en_sc_beaten v) ∧ BeatQ (n + 40000) v := by
 refine okA (e_sc_beaten _) ?_
 unfold Far at hn
 refine koA inj_sc_close (o_sc_close _ _ hc (by unfold Far; omega)) fun r hr => ?_
 obtain ⟨⟨b, s⟩, c1⟩ := r
 obtain ⟨hb, h1, h20, hc1⟩ := hr
 dsimp only at hb h1 h20 hc1 ⊢
 refine koA inj_sc_pick (o_sc_pick _ _ _ hc1 (by unfold Far; omega)) fun p hp => ?_
 obtain ⟨v, q1, q2⟩ := l_sc_beaten_L4 b s hb h1 h20 p.2 (n + 10000 + 2) hp.2.2 (by unfold Far; omega) 0 0 0 0 0 0 0 0 0 s.Units.length 0 p.1 (by omega) hp.1 (by omega)
 exact ⟨_, q1, v, rfl, q2.1, q2.2.1, q2.2.2.to⟩
theorem o_laws_big (x y : KSl) : ∃ v, A_laws_big x y = some (en_laws_big v) ∧ True := by
 refine okA (e_laws_big _ _) ?_
 exact OK.ite (fun _ => OK.some ⟨_, rfl, trivial⟩) (fun _ => OK.some ⟨_, rfl, trivial⟩)
abbrev EdF := Nat → Nat → Option (Nat × Int)
def vv (l : List Int) (k : Nat) : Int := l.getD k (-1)
inductive Wk (F : EdF) (s : Nat) : Int → Nat → Prop where
 | nil : Wk F s 0 s
 | cons (n : Int) (k d t : Nat) (c : Int) : Wk F s n k → d < 6 → F k d = some (t, c) → Wk F s (n + c) t
structure EdOk (F : EdF) (N : Nat) (C : Int) : Prop where
 c0 : 0 ≤ C
 e : ∀ k d t c, F k d = some (t, c) → t < N ∧ 1 ≤ c ∧ c ≤ C
structure Good (F : EdF) (N s : Nat) (l : List Int) : Prop where
 len : l.length = N
 sN : s < N
 src : vv l s = 0
 wk : ∀ k, 0 ≤ vv l k → Wk F s (vv l k) k
 neg : ∀ k, -1 ≤ vv l k
def satE (F : EdF) (l : List Int) (k d : Nat) : Prop := ∀ t c, F k d = some (t, c) → 0 ≤ vv l k → 0 ≤ vv l t ∧ vv l t ≤ vv l k + c
theorem vv_set {l : List Int} {t k : Nat} {z : Int} (ht : t < l.length) : vv (l.set t z) k = if k = t then z else vv l k := by
 unfold vv
 rw [List.getD_eq_getElem?_getD, List.getD_eq_getElem?_getD, List.getElem?_set]
 by_cases h : k = t
 ·subst h
  rw [if_pos rfl, if_pos rfl, if_pos ht]
  rfl
 ·rw [if_neg (fun e => h e.symm), if_neg h]
theorem vv_get {l : List Int} {k : Nat} (h : k < l.length) : l[k]? = some (vv l k) := by
 unfold vv
 rw [List.getD_eq_getElem?_getD, List.getElem?_eq_getElem h]
 rfl
theorem vv_out {l : List Int} {k : Nat} (h : l.length ≤ k) : vv l k = -1 := by
 unfold vv
 rw [List.getD_eq_getElem?_getD, List.getElem?_eq_none h]
 rfl
theorem Good.upd {F : EdF} {N s : Nat} {C : Int} {l : List Int} (ok : EdOk F N C) (g : Good F N s l) {k d t : Nat} {c : Int} (hd : d < 6) (he : F k d = some (t, c)) (hk : 0 ≤ vv l k) (hu : vv l t < 0 ∨ vv l k + c < vv l t) : Good F N s (l.set t (vv l k + c)) := by
 obtain ⟨ht, hc1, hc2⟩ := ok.e k d t c he
 have htl : t < l.length := by rw [g.len]; exact ht
 have hts : s ≠ t := fun e => by
  subst e
  have := g.src
  omega
 refine ⟨by rw [List.length_set]; exact g.len, g.sN, by rw [vv_set htl, if_neg hts]; exact g.src, fun j hj => ?_, fun j => ?_⟩
 ·rw [vv_set htl] at hj ⊢
  by_cases h : j = t
  ·rw [if_pos h, h]; exact .cons _ k d t c (g.wk k hk) hd he
  ·rw [if_neg h] at hj ⊢; exact g.wk j hj
 ·rw [vv_set htl]
  split
  ·omega
  ·exact g.neg j
theorem good_init (F : EdF) {N s : Nat} (hs : s < N) : Good F N s ((List.replicate N (-1)).set s 0) := by
 have hv : ∀ k, vv ((List.replicate N (-1)).set s 0) k = if k = s then 0 else -1 := fun k => by
  rw [vv_set (by simpa using hs)]
  split
  ·rfl
  ·by_cases hk : k < N
   ·unfold vv; rw [List.getD_eq_getElem?_getD, List.getElem?_replicate, if_pos hk]; rfl
   ·exact vv_out (by simp; omega)
 refine ⟨by simp, hs, by rw [hv, if_pos rfl], fun k hk => ?_, fun k => ?_⟩
 ·rw [hv] at hk ⊢
  by_cases h : k = s
  ·rw [if_pos h, h]; exact .nil
  ·rw [if_neg h] at hk; omega
 ·rw [hv]; split <;> omega
abbrev StR := List Int × Bool
def relU (F : EdF) (st : StR) (k d : Nat) : StR := match F k d with
 | none => st
 | some (t, c) => if 0 ≤ vv st.1 k ∧ (vv st.1 t < 0 ∨ vv st.1 k + c < vv st.1 t) then (st.1.set t (vv st.1 k + c), true) else st
def mu (M : Int) (l : List Int) : Int := sumI (fun v => if v < 0 then M else v) l
theorem sum_set {f : Int → Int} : ∀ {l : List Int} {t : Nat} {v z : Int}, l[t]? = some v → sumI f (l.set t z) = sumI f l - f v + f z
 | [], t, v, z, h => by simp at h
 | x :: r, 0, v, z, h => by
  simp at h
  subst h
  rw [List.set_cons_zero]
  unfold sumI
  omega
 | x :: r, t + 1, v, z, h => by
  have := sum_set (f := f) (l := r) (t := t) (v := v) (z := z) (by simpa using h)
  rw [List.set_cons_succ]
  unfold sumI
  omega
def Bd (C : Int) (l : List Int) : Prop := ∀ v ∈ l, v ≤ C * ((l.length : Int) - 1 - (negs l : Int))
theorem Bd.top {C : Int} {l : List Int} (hc : 0 ≤ C) (h : Bd C l) {v : Int} (hv : v ∈ l) : v ≤ C * ((l.length : Int) - 1) := by
 have h1 := h v hv
 have : C * ((l.length : Int) - 1 - (negs l : Int)) ≤ C * ((l.length : Int) - 1) := Int.mul_le_mul_of_nonneg_left (by omega) hc
 omega
theorem Bd.upd {F : EdF} {N s : Nat} {C : Int} {l : List Int} (ok : EdOk F N C) (g : Good F N s l) (hb : Bd C l) {k d t : Nat} {c : Int} (he : F k d = some (t, c)) (hk : 0 ≤ vv l k) (hu : vv l t < 0 ∨ vv l k + c < vv l t) : Bd C (l.set t (vv l k + c)) := by
 obtain ⟨ht, hc1, hc2⟩ := ok.e k d t c he
 have htl : t < l.length := by rw [g.len]; exact ht
 have hkl : k < l.length := by
  by_cases h : k < l.length
  ·exact h
  ·rw [vv_out (by omega)] at hk; omega
 have hn := negs_set (vv_get htl) (vv l k + c) (by omega)
 have hkb := hb _ (mem_of_get (vv_get hkl))
 have htb := hb _ (mem_of_get (vv_get htl))
 intro v hv
 rw [List.length_set]
 have mono : ∀ a b : Int, a ≤ b → C * a ≤ C * b := fun a b h => Int.mul_le_mul_of_nonneg_left h ok.c0
 rcases List.mem_or_eq_of_mem_set hv with hv | hv
 ·have h1 := hb v hv
  have h2 := mono ((l.length : Int) - 1 - (negs l : Int)) ((l.length : Int) - 1 - (negs (l.set t (vv l k + c)) : Int)) (by split at hn <;> omega)
  omega
 ·subst hv
  by_cases h0 : vv l t < 0
  ·rw [if_pos h0] at hn
   have h2 : C * ((l.length : Int) - 1 - (negs (l.set t (vv l k + c)) : Int)) = C * ((l.length : Int) - 1 - (negs l : Int)) + C := by
    rw [show ((l.length : Int) - 1 - (negs (l.set t (vv l k + c)) : Int)) = ((l.length : Int) - 1 - (negs l : Int)) + 1 by omega, Int.mul_add, Int.mul_one]
   omega
  ·rw [if_neg h0] at hn
   have : (negs (l.set t (vv l k + c)) : Int) = (negs l : Int) := by omega
   rw [this]
   rcases hu with hu | hu <;> omega
theorem mu_upd {F : EdF} {N s : Nat} {C : Int} {l : List Int} (ok : EdOk F N C) (g : Good F N s l) (hb : Bd C l) {k d t : Nat} {c : Int} (he : F k d = some (t, c)) (hk : 0 ≤ vv l k) (hu : vv l t < 0 ∨ vv l k + c < vv l t) : mu (C * N + 1) (l.set t (vv l k + c)) < mu (C * N + 1) l := by
 obtain ⟨ht, hc1, hc2⟩ := ok.e k d t c he
 have htl : t < l.length := by rw [g.len]; exact ht
 have h2 := (hb.upd ok g he hk hu).top ok.c0 (v := vv l k + c) (List.mem_of_getElem? (by rw [List.getElem?_set_self htl]))
 rw [List.length_set, g.len] at h2
 have h3 : C * ((N : Int) - 1) ≤ C * N := Int.mul_le_mul_of_nonneg_left (by omega) ok.c0
 unfold mu
 rw [sum_set (vv_get htl), if_neg (show ¬ vv l k + c < 0 by omega)]
 split
 ·omega
 ·rcases hu with hu | hu <;> omega
structure PI (F : EdF) (N s : Nat) (C : Int) (l0 : List Int) (seen : Nat → Nat → Prop) (st : StR) : Prop where
 g : Good F N s st.1
 b : Bd C st.1
 m : mu (C * N + 1) st.1 ≤ mu (C * N + 1) l0
 yes : st.2 = true → mu (C * N + 1) st.1 < mu (C * N + 1) l0
 no : st.2 = false → st.1 = l0 ∧ ∀ k d, seen k d → satE F l0 k d
theorem PI.step {F : EdF} {N s : Nat} {C : Int} {l0 : List Int} (ok : EdOk F N C) {seen : Nat → Nat → Prop} {st : StR} (h : PI F N s C l0 seen st) (k d : Nat) (hd : d < 6) : PI F N s C l0 (fun a b => seen a b ∨ a = k ∧ b = d) (relU F st k d) := by
 unfold relU
 cases he : F k d with
 | none =>
  refine ⟨h.g, h.b, h.m, h.yes, fun hn => ⟨(h.no hn).1, fun a b hab => ?_⟩⟩
  rcases hab with hab | ⟨rfl, rfl⟩
  ·exact (h.no hn).2 a b hab
  ·intro t c he2; rw [he] at he2; cases he2
 | some p =>
  obtain ⟨t, c⟩ := p
  dsimp only
  by_cases hu : 0 ≤ vv st.1 k ∧ (vv st.1 t < 0 ∨ vv st.1 k + c < vv st.1 t)
  ·rw [if_pos hu]
   have := mu_upd ok h.g h.b he hu.1 hu.2
   have := h.m
   exact ⟨h.g.upd ok hd he hu.1 hu.2, h.b.upd ok h.g he hu.1 hu.2, by dsimp only; omega, fun _ => by dsimp only; omega, fun hn => by cases hn⟩
  ·rw [if_neg hu]
   refine ⟨h.g, h.b, h.m, h.yes, fun hn => ⟨(h.no hn).1, fun a b hab => ?_⟩⟩
   rcases hab with hab | ⟨rfl, rfl⟩
   ·exact (h.no hn).2 a b hab
   ·intro t2 c2 he2 h0
    rw [he] at he2
    cases he2
    rw [(h.no hn).1] at hu
    have := ok.e _ _ _ _ he
    omega
def dn (done : List Bool) (k : Nat) : Bool := done.getD k false
def relD (F : EdF) (b : Nat) (l : List Int) (d : Nat) : List Int := match F b d with
 | none => l
 | some (t, c) => if vv l t < 0 ∨ vv l b + c < vv l t then l.set t (vv l b + c) else l
def relB (F : EdF) (l : List Int) (b : Nat) : List Int := (List.range 6).foldl (relD F b) l
structure DI (F : EdF) (N s : Nat) (l : List Int) (done : List Bool) : Prop where
 g : Good F N s l
 n : done.length = N
 r : ∀ k, dn done k = true → 0 ≤ vv l k
 c : ∀ k j, dn done k = true → dn done j = false → 0 ≤ vv l j → vv l k ≤ vv l j
 e : ∀ k d, d < 6 → dn done k = true → satE F l k d
structure DJ (F : EdF) (N s : Nat) (l0 : List Int) (done : List Bool) (b : Nat) (pre : List Nat) (l : List Int) : Prop where
 g : Good F N s l
 same : ∀ k, dn done k = true ∨ k = b → vv l k = vv l0 k
 low : ∀ j, dn done j = false → 0 ≤ vv l j → vv l0 b ≤ vv l j
 dec : ∀ j, 0 ≤ vv l0 j → 0 ≤ vv l j ∧ vv l j ≤ vv l0 j
 sat : ∀ d ∈ pre, satE F l b d
theorem DJ.step {F : EdF} {N s : Nat} {C : Int} (ok : EdOk F N C) {l0 : List Int} {done : List Bool} {b : Nat} (h0 : DI F N s l0 done) (hb : 0 ≤ vv l0 b) (hbd : dn done b = false) {pre : List Nat} {l : List Int} (h : DJ F N s l0 done b pre l) {d : Nat} (hd : d < 6) :
  DJ F N s l0 done b (pre ++ [d]) (relD F b l d) := by
 have hvb : vv l b = vv l0 b := h.same b (.inr rfl)
 unfold relD
 cases he : F b d with
 | none =>
  refine ⟨h.g, h.same, h.low, h.dec, fun x hx => ?_⟩
  rcases List.mem_append.1 hx with hx | hx
  ·exact h.sat x hx
  ·rw [List.mem_singleton.1 hx]
   intro t c he2
   rw [he] at he2
   cases he2
 | some p =>
  obtain ⟨t, c⟩ := p
  obtain ⟨ht, hc1, hc2⟩ := ok.e b d t c he
  have htl : t < l.length := by rw [h.g.len]; exact ht
  dsimp only
  by_cases hu : vv l t < 0 ∨ vv l b + c < vv l t
  ·rw [if_pos hu]
   have htd : dn done t = false := by
    cases hdt : dn done t with
    | false => rfl
    | true =>
     have h1 := h.same t (.inl hdt)
     have h2 := h0.c t b hdt hbd hb
     have h3 := h0.r t hdt
     omega
   have htb : t ≠ b := fun e => by rw [e] at hu; omega
   refine ⟨h.g.upd ok hd he (by omega) hu, fun k hk => ?_, fun j hj hj0 => ?_, fun j hj => ?_, fun x hx => ?_⟩
   ·have hkt : k ≠ t := fun e => by
     subst e
     rcases hk with hk | hk
     ·rw [htd] at hk; cases hk
     ·exact htb hk
    rw [vv_set htl, if_neg hkt]
    exact h.same k hk
   ·rw [vv_set htl] at hj0 ⊢
    split
    ·omega
    ·rename_i hne
     rw [if_neg hne] at hj0
     exact h.low j hj hj0
   ·have := h.dec j hj
    rw [vv_set htl]
    split
    ·rename_i e
     subst e
     omega
    ·exact this
   ·have hold : ∀ x ∈ pre, satE F (l.set t (vv l b + c)) b x := fun x hx t2 c2 he2 _ => by
     have hs := h.sat x hx t2 c2 he2 (by omega)
     rw [vv_set htl, vv_set htl, if_neg (fun e : b = t => htb e.symm)]
     split
     ·rename_i e
      subst e
      omega
     ·exact hs
    rcases List.mem_append.1 hx with hx | hx
    ·exact hold x hx
    ·rw [List.mem_singleton.1 hx]
     intro t2 c2 he2 _
     rw [he] at he2
     cases he2
     rw [vv_set htl, vv_set htl, if_pos rfl, if_neg (fun e : b = t => htb e.symm)]
     omega
  ·rw [if_neg hu]
   refine ⟨h.g, h.same, h.low, h.dec, fun x hx => ?_⟩
   rcases List.mem_append.1 hx with hx | hx
   ·exact h.sat x hx
   ·rw [List.mem_singleton.1 hx]
    intro t2 c2 he2 _
    rw [he] at he2
    cases he2
    omega
theorem dn_set {done : List Bool} {b k : Nat} (hb : b < done.length) : dn (done.set b true) k = if k = b then true else dn done k := by
 unfold dn
 rw [List.getD_eq_getElem?_getD, List.getD_eq_getElem?_getD, List.getElem?_set]
 by_cases h : k = b
 ·subst h
  rw [if_pos rfl, if_pos rfl, if_pos hb]
  rfl
 ·rw [if_neg (fun e => h e.symm), if_neg h]
theorem DI.step {F : EdF} {N s : Nat} {C : Int} (ok : EdOk F N C) {l : List Int} {done : List Bool} (h : DI F N s l done) {b : Nat} (hbN : b < l.length) (hb : 0 ≤ vv l b) (hbd : dn done b = false) (hmin : ∀ k, k < l.length → 0 ≤ vv l k → dn done k = false → vv l b ≤ vv l k) :
  DI F N s (relB F l b) (done.set b true) := by
 have hj0 : DJ F N s l done b [] l := ⟨h.g, fun _ _ => rfl, fun j hj hj0 => hmin j (by
  by_cases hjl : j < l.length
  ·exact hjl
  ·rw [vv_out (by omega)] at hj0; omega) hj0 hj, fun j hj => ⟨hj, Int.le_refl _⟩, fun d hd => by cases hd⟩
 have := fold_inv (relD F b) (fun pre l' => (∀ d ∈ pre, d < 6) → DJ F N s l done b pre l') (fun pre x l' ih hp => (ih fun d hd => hp d (List.mem_append_left _ hd)).step ok h hb hbd (hp x (by simp))) (List.range 6) [] l (fun _ => hj0)
 rw [List.nil_append] at this
 have hj : DJ F N s l done b (List.range 6) (relB F l b) := this fun d hd => List.mem_range.1 hd
 have hbl : b < done.length := by rw [h.n, ← h.g.len]; exact hbN
 have hvb : vv (relB F l b) b = vv l b := hj.same b (.inr rfl)
 refine ⟨hj.g, by rw [List.length_set]; exact h.n, fun k hk => ?_, fun k j hk hjd hj0 => ?_, fun k d hd hk => ?_⟩
 ·rw [dn_set hbl] at hk
  by_cases e : k = b
  ·subst e; omega
  ·rw [if_neg e] at hk
   have := h.r k hk
   exact (hj.dec k this).1
 ·rw [dn_set hbl] at hk hjd
  by_cases ej : j = b
  ·rw [if_pos ej] at hjd; cases hjd
  ·rw [if_neg ej] at hjd
   have h1 := hj.low j hjd hj0
   by_cases e : k = b
   ·subst e; omega
   ·rw [if_neg e] at hk
    have h2 := hj.same k (.inl hk)
    have h3 := h.c k b hk hbd hb
    omega
 ·rw [dn_set hbl] at hk
  by_cases e : k = b
  ·subst e
   exact hj.sat d (List.mem_range.2 hd)
  ·rw [if_neg e] at hk
   intro t c he h0
   have h2 := hj.same k (.inl hk)
   have h3 := h.e k d hd hk t c he (by omega)
   have h4 := hj.dec t h3.1
   omega
theorem DI.init (F : EdF) {N s : Nat} (hs : s < N) : DI F N s ((List.replicate N (-1)).set s 0) (List.replicate N false) := by
 have hd : ∀ k, dn (List.replicate N false) k = false := fun k => by
  unfold dn
  rw [List.getD_eq_getElem?_getD, List.getElem?_replicate]
  split <;> rfl
 exact ⟨good_init F hs, by simp, fun k hk => (by rw [hd] at hk; cases hk), fun k j hk => (by rw [hd] at hk; cases hk), fun k d _ hk => (by rw [hd] at hk; cases hk)⟩
theorem Bd.init {C : Int} {N s : Nat} (hc : 0 ≤ C) (hs : s < N) : Bd C ((List.replicate N (-1)).set s 0) := by
 intro v hv
 have hn : negs ((List.replicate N (-1)).set s 0) + 1 = N := by
  have hg : (List.replicate N (-1 : Int))[s]? = some (-1) := by rw [List.getElem?_replicate, if_pos hs]
  have := negs_set hg 0 (by omega)
  rw [if_pos (by omega)] at this
  have h2 : negs (List.replicate N (-1 : Int)) = N := by
   unfold negs
   rw [List.filter_eq_self.2 fun x hx => by rw [List.eq_of_mem_replicate hx]; rfl]
   simp
  omega
 rw [List.length_set, List.length_replicate, show ((N : Int) - 1 - (negs ((List.replicate N (-1)).set s 0) : Int)) = 0 by omega, Int.mul_zero]
 rcases List.mem_or_eq_of_mem_set hv with h | h
 ·have := List.eq_of_mem_replicate h; omega
 ·omega
def weatherR (w : Int) : Int := if 0 < w then w - 1 else w
def stepC (b : DBoard) (kind w i d : Int) : Int :=
 if nextL b.Map i d < 0 ∨ costL b kind (nextL b.Map i d) = 0 then 0
 else if edgeL b.Map i d ∈ b.Map.Roads then b.Rules.Road + weatherR w
 else costL b kind (nextL b.Map i d) + w + (if edgeL b.Map i d ∈ b.Map.Rivers then b.Rules.River else 0)
structure MoveG (b : DBoard) (kind w : Int) : Prop where
 g : BoardG b
 n : MapN b.Map
 k0 : 0 ≤ kind
 k1 : kind < b.Rules.Kinds.length
 w0 : 0 ≤ w
 w2 : w ≤ 2
theorem rest_b {b : DBoard} (g : BoardG b) : 0 ≤ b.Rules.River ∧ b.Rules.River ≤ 9 ∧ 1 ≤ b.Rules.Road ∧ b.Rules.Road ≤ 9 := by
 have h := g.ok
 unfold boardB rulesB restB at h
 simp only [Bool.and_eq_true, inB_iff] at h
 omega
theorem next_at {b : DBoard} (g : BoardG b) {i d : Int} (h : 0 ≤ nextL b.Map i d) : nextL b.Map i d < b.Map.Width * b.Map.Height := nextL_area g.w0 g.h0 i d
theorem step_b {b : DBoard} {kind w : Int} (g : MoveG b kind w) (i d : Int) : 0 ≤ stepC b kind w i d ∧ stepC b kind w i d ≤ 20 ∧ (stepC b kind w i d ≠ 0 → 0 ≤ nextL b.Map i d ∧ nextL b.Map i d < b.Map.Width * b.Map.Height) := by
 have hr := rest_b g.g
 have := g.w0
 have := g.w2
 unfold stepC weatherR
 by_cases h : nextL b.Map i d < 0 ∨ costL b kind (nextL b.Map i d) = 0
 ·rw [if_pos h]; exact ⟨by omega, by omega, fun h => absurd rfl h⟩
 ·rw [if_neg h]
  have h0 : 0 ≤ nextL b.Map i d := by omega
  have hn := next_at g.g h0
  obtain ⟨_, c0, c9⟩ := g.g.cost_ex g.k0 g.k1 h0 hn
  refine ⟨?_, ?_, fun _ => ⟨h0, hn⟩⟩
  ·split
   ·split <;> omega
   ·split <;> omega
  ·split
   ·split <;> omega
   ·split <;> omega
theorem step_pos {b : DBoard} {kind w : Int} (g : MoveG b kind w) {i d : Int} (h : stepC b kind w i d ≠ 0) : 1 ≤ stepC b kind w i d := by
 have := step_b g i d
 omega
theorem c_impl_weatherCost (w : Int) (road : Bool) (h0 : 0 ≤ w) (h2 : w ≤ 2) : A_impl_weatherCost w road = some (en_impl_weatherCost (if road then weatherR w else w)) := by
 apply e_impl_weatherCost
 unfold weatherR
 cases road with
 | false => rfl
 | true =>
  by_cases h : 0 < w
  ·rw [if_pos rfl, if_pos (by simpa using h), wrap_id (by omega) (by omega), if_pos rfl, if_pos h]; rfl
  ·rw [if_pos rfl, if_neg (by simpa using h), if_pos rfl, if_neg h]; rfl
theorem c_spec_csWeather (w : Int) (road : Bool) (h0 : 0 ≤ w) (h2 : w ≤ 2) : A_spec_csWeather w road = some (en_spec_csWeather (if road then weatherR w else w)) := by
 apply e_spec_csWeather
 unfold weatherR
 cases road with
 | false => rfl
 | true =>
  have hc : w = 0 ∨ w = 1 ∨ w = 2 := by omega
  rcases hc with h | h | h <;> subst h <;> rfl
theorem c_impl_stepCost (b : DBoard) (kind w i d : Int) (g : MoveG b kind w) (hi : sm i) (d0 : 0 ≤ d) (d6 : d < 6) : A_impl_stepCost b kind w i d = some (en_impl_stepCost (stepC b kind w i d)) := by
 apply e_impl_stepCost
 unfold stepC
 have hr := rest_b g.g
 have w0 := g.w0
 have w2 := g.w2
 have hrl := g.n.r
 have hdl := g.n.d
 rw [cast_of inj_impl_nextTo (c_impl_nextTo _ _ _ g.g.s.b hi d0 d6)]
 by_cases h0 : nextL b.Map i d < 0
 ·rw [if_pos (by simpa using h0), if_pos (.inl h0)]; rfl
 ·have hn := next_at g.g (by omega : 0 ≤ nextL b.Map i d)
  obtain ⟨hc, c0, c9⟩ := g.g.cost_ex g.k0 g.k1 (by omega : 0 ≤ nextL b.Map i d) hn
  rw [if_neg (by simpa using h0), cast_of inj_impl_enterCost (c_impl_enterCost _ _ _ hc)]
  by_cases hz : costL b kind (nextL b.Map i d) = 0
  ·rw [if_pos (by simpa using hz), if_pos (.inr hz)]; rfl
  ·rw [if_neg (by simpa using hz), if_neg (by rintro (h | h) <;> omega), cast_of inj_impl_edgeOf (c_impl_edgeOf _ _ _ g.g.s.b hi d0 d6), if_neg h0, cast_of inj_slices_Contains_int (c_slices_Contains_int _ _ (by omega))]
   by_cases hro : edgeL b.Map i d ∈ b.Map.Roads
   ·have hw : 0 ≤ weatherR w ∧ weatherR w ≤ 2 := by unfold weatherR; split <;> omega
    rw [if_pos (by simpa using hro), if_pos hro, cast_of inj_impl_weatherCost (c_impl_weatherCost w true w0 w2), if_pos rfl, wrap_id (by omega) (by omega)]
    rfl
   ·rw [if_neg (by simpa using hro), if_neg hro, cast_of inj_impl_enterCost (c_impl_enterCost _ _ _ hc), cast_of inj_impl_weatherCost (c_impl_weatherCost w false w0 w2), if_neg (by simp), wrap_id (n := costL b kind (nextL b.Map i d) + w) (by omega) (by omega), cast_of inj_slices_Contains_int (c_slices_Contains_int _ _ (by omega))]
    by_cases hri : edgeL b.Map i d ∈ b.Map.Rivers
    ·rw [if_pos (by simpa using hri), if_pos hri, wrap_id (by omega) (by omega)]; rfl
    ·rw [if_neg (by simpa using hri), if_neg hri, Int.add_zero]; rfl
theorem c_spec_cStep (b : DBoard) (kind w i d : Int) (g : MoveG b kind w) (hi : sm i) (d0 : 0 ≤ d) (d6 : d < 6) : A_spec_cStep b kind i d w = some (en_spec_cStep (stepC b kind w i d)) := by
 apply e_spec_cStep
 unfold stepC
 have hr := rest_b g.g
 have w0 := g.w0
 have w2 := g.w2
 rw [cast_of inj_spec_mNext (c_spec_mNext _ _ _ g.g.s.b hi d0 d6)]
 by_cases h0 : nextL b.Map i d < 0
 ·rw [if_pos (by simpa using h0), if_pos (.inl h0)]; rfl
 ·have hn := next_at g.g (by omega : 0 ≤ nextL b.Map i d)
  obtain ⟨hc, c0, c9⟩ := g.g.cost_ex g.k0 g.k1 (by omega : 0 ≤ nextL b.Map i d) hn
  rw [if_neg (by simpa using h0), cast_of inj_spec_bCost (c_spec_bCost _ _ _ hc)]
  by_cases hz : costL b kind (nextL b.Map i d) = 0
  ·rw [if_pos (by simpa using hz), if_pos (.inr hz)]; rfl
  ·rw [if_neg (by simpa using hz), if_neg (by rintro (h | h) <;> omega), cast_of inj_spec_mRoad (c_spec_mRoad _ _ _ g.g.s.b g.n hi d0 d6)]
   by_cases hro : edgeL b.Map i d ∈ b.Map.Roads
   ·have hw : 0 ≤ weatherR w ∧ weatherR w ≤ 2 := by unfold weatherR; split <;> omega
    rw [if_pos (by simpa using hro), if_pos hro, cast_of inj_spec_csWeather (c_spec_csWeather w true w0 w2), if_pos rfl, wrap_id (by omega) (by omega)]
    rfl
   ·rw [if_neg (by simpa using hro), if_neg hro, cast_of inj_spec_bCost (c_spec_bCost _ _ _ hc), cast_of inj_spec_csWeather (c_spec_csWeather w false w0 w2), if_neg (by simp), wrap_id (n := costL b kind (nextL b.Map i d) + w) (by omega) (by omega), cast_of inj_spec_mRiver (c_spec_mRiver _ _ _ g.g.s.b g.n hi d0 d6)]
    by_cases hri : edgeL b.Map i d ∈ b.Map.Rivers
    ·rw [if_pos (by simpa using hri), if_pos hri, wrap_id (by omega) (by omega)]; rfl
    ·rw [if_neg (by simpa using hri), if_neg hri, Int.add_zero]; rfl
def edF (b : DBoard) (kind w : Int) : EdF := fun k d => if stepC b kind w (k : Int) (d : Int) = 0 then none else some ((nextL b.Map (k : Int) (d : Int)).toNat, stepC b kind w (k : Int) (d : Int))
theorem ed_ok {b : DBoard} {kind w : Int} (g : MoveG b kind w) : EdOk (edF b kind w) b.Map.Terrain.length 20 := by
 have ha := area_b g.g
 refine ⟨by omega, fun k d t c h => ?_⟩
 unfold edF at h
 by_cases hz : stepC b kind w (k : Int) (d : Int) = 0
 ·rw [if_pos hz] at h; cases h
 ·rw [if_neg hz] at h
  cases h
  have h1 := step_b g (k : Int) (d : Int)
  have h2 := h1.2.2 hz
  have h3 := step_pos g hz
  exact ⟨by omega, h3, h1.2.1⟩
structure JR (b : DBoard) (kind w : Int) (N s : Nat) (l : List Int) : Prop where
 g : Good (edF b kind w) N s l
 b : Bd 20 l
theorem JR.val {b : DBoard} {kind w : Int} {N s : Nat} {l : List Int} (h : JR b kind w N s l) (hN : N ≤ 100) (k : Nat) : -1 ≤ vv l k ∧ vv l k ≤ 2000 := by
 refine ⟨h.g.neg k, ?_⟩
 by_cases hk : k < l.length
 ·have := h.b.top (by omega) (mem_of_get (vv_get hk))
  have := h.g.len
  omega
 ·rw [vv_out (by omega)]; omega
theorem JR.relU {b : DBoard} {kind w : Int} (g : MoveG b kind w) {s : Nat} {st : StR} (h : JR b kind w b.Map.Terrain.length s st.1) {k d : Nat} (hd : d < 6) : JR b kind w b.Map.Terrain.length s (relU (edF b kind w) st k d).1 := by
 unfold Go.Ev.relU
 cases he : edF b kind w k d with
 | none => exact h
 | some p =>
  obtain ⟨t, c⟩ := p
  dsimp only
  split
  ·rename_i hu
   exact ⟨h.g.upd (ed_ok g) hd he hu.1 hu.2, h.b.upd (ed_ok g) h.g he hu.1 hu.2⟩
  ·exact h
theorem JR.relD {b : DBoard} {kind w : Int} (g : MoveG b kind w) {s : Nat} {l : List Int} (h : JR b kind w b.Map.Terrain.length s l) {a d : Nat} (h0 : 0 ≤ vv l a) (hd : d < 6) : JR b kind w b.Map.Terrain.length s (relD (edF b kind w) a l d) ∧ 0 ≤ vv (relD (edF b kind w) a l d) a := by
 unfold Go.Ev.relD
 cases he : edF b kind w a d with
 | none => exact ⟨h, h0⟩
 | some p =>
  obtain ⟨t, c⟩ := p
  dsimp only
  split
  ·rename_i hu
   have hg : JR b kind w b.Map.Terrain.length s (l.set t (vv l a + c)) := ⟨h.g.upd (ed_ok g) hd he h0 hu, h.b.upd (ed_ok g) h.g he h0 hu⟩
   refine ⟨hg, ?_⟩
   have := (ed_ok g).e _ _ _ _ he
   rw [vv_set (by rw [h.g.len]; exact this.1)]
   split
   ·omega
   ·exact h0
  ·exact ⟨h, h0⟩
theorem JR.relB {b : DBoard} {kind w : Int} (g : MoveG b kind w) {s : Nat} {l : List Int} (h : JR b kind w b.Map.Terrain.length s l) {a : Nat} (h0 : 0 ≤ vv l a) : JR b kind w b.Map.Terrain.length s (relB (edF b kind w) l a) := by
 unfold Go.Ev.relB
 have := fold_inv (Go.Ev.relD (edF b kind w) a) (fun pre l => (∀ d ∈ pre, d < 6) → JR b kind w b.Map.Terrain.length s l ∧ 0 ≤ vv l a) (fun pre x st ih hp => by
  have h := ih fun d hd => hp d (List.mem_append_left _ hd)
  exact h.1.relD g h.2 (hp x (by simp))) (List.range 6) [] l (fun _ => ⟨h, h0⟩)
 rw [List.nil_append] at this
 exact (this fun d hd => List.mem_range.1 hd).1
theorem c_laws_sameInts (l : List Int) (hl : l.length < 1000000000000) : A_laws_sameInts l l = some (en_laws_sameInts true) := by
 apply e_laws_sameInts
 rw [if_neg (by simp)]
 refine fold_loop (fun j (_ : Unit) => L_laws_sameInts_L4 l l l.length j) l (fun _ u _ => u) (fun _ _ => True) (fun _ => some (en_laws_sameInts true)) ?_ ?_ () trivial _ rfl
 ·intro _ _ r hr
  apply e_laws_sameInts_L4
  rw [if_neg (by simp)]
  exact hr
 ·intro j x _ hx hj _
  refine ⟨trivial, ?_⟩
  intro r hr
  apply e_laws_sameInts_L4
  rw [if_pos (by simpa using hj), ixA_at sl_cI rfl hx, ixA_at sl_cI rfl hx, if_neg (by simp), wrap_id (n := (j : Int) + 1) (by omega) (by omega)]
  exact hr
theorem cnt_zero {us : List DUnit} {i t : Int} : cnt us i t = 0 ↔ ∀ u ∈ us, ¬ (u.At = i ∧ u.Side = t) := by
 unfold cnt
 rw [List.length_eq_zero_iff, List.filter_eq_nil_iff]
 simp
theorem owner_cnt {b : DBoard} {s : DState} (g : StateG b s) {i side : Int} (hi : 0 ≤ i) (hs : side = 0 ∨ side = 1) : ownerL s.Units i = 1 - side ↔ cnt s.Units i (1 - side) ≠ 0 := by
 constructor
 ·intro h h0
  rw [cnt_zero] at h0
  unfold ownerL at h
  cases hf : s.Units.find? (fun u => u.At == i) with
  | none => rw [hf] at h; simp at h; omega
  | some z =>
   rw [hf] at h
   have hz := List.find?_some hf
   have hz := beq_iff_eq.1 hz
   exact h0 z (List.mem_of_find?_eq_some hf) ⟨hz, h⟩
 ·intro h
  by_cases ho : ownerL s.Units i = 1 - side
  ·exact ho
  ·refine absurd (cnt_zero.2 fun u hu he => ?_) h
   have := side_at g hi hs ho hu he.1
   omega
theorem mem_atL {us : List DUnit} {i v : Int} : v ∈ atL us i ↔ ∃ (j : Nat) (u : DUnit), us[j]? = some u ∧ u.At = i ∧ v = j := by
 unfold atL
 rw [mem_colI]
 constructor
 ·rintro ⟨j, u, h1, h2, h3⟩; exact ⟨j, u, h1, beq_iff_eq.1 h2, h3.symm⟩
 ·rintro ⟨j, u, h1, h2, h3⟩; exact ⟨j, u, h1, beq_iff_eq.2 h2, h3.symm⟩
theorem mem_sAtL {us : List DUnit} {i side v : Int} : v ∈ sAtL us i side ↔ ∃ (j : Nat) (u : DUnit), us[j]? = some u ∧ u.At = i ∧ u.Side = side ∧ v = j := by
 unfold sAtL
 simp only [List.mem_map, List.mem_filter, Bool.and_eq_true, beq_iff_eq, Prod.exists, List.mem_zipIdx_iff_getElem?]
 constructor
 ·rintro ⟨u, j, ⟨h1, h2, h3⟩, h4⟩; exact ⟨j, u, h1, h2, h3, h4.symm⟩
 ·rintro ⟨j, u, h1, h2, h3, h4⟩; exact ⟨u, j, ⟨h1, h2, h3⟩, h4.symm⟩
def sideO (us : List DUnit) (k : Int) : Int := ((getI us k).map DUnit.Side).getD (-1)
theorem at_all {us : List DUnit} {i side : Int} (hu : ∀ u ∈ us, u.Side = 0 ∨ u.Side = 1) (hs : side = 0 ∨ side = 1) : (atL us i).all (fun k => sideO us k == side) = decide (cnt us i (1 - side) = 0) := by
 rw [Bool.eq_iff_iff, List.all_eq_true, decide_eq_true_eq, cnt_zero]
 constructor
 ·intro h u hm he
  obtain ⟨j, hj⟩ := List.getElem?_of_mem hm
  have := h j (mem_atL.2 ⟨j, u, hj, he.1, rfl⟩)
  unfold sideO at this
  rw [getI_nat, hj] at this
  simp at this
  omega
 ·intro h v hv
  obtain ⟨j, u, hj, ha, rfl⟩ := mem_atL.1 hv
  have h1 := h u (mem_of_get hj)
  have h2 := hu u (mem_of_get hj)
  unfold sideO
  rw [getI_nat, hj]
  simp
  omega
theorem at_any {us : List DUnit} {i side u : Int} (h : (atL us i).all (fun k => sideO us k == side) = true) : (atL us i).any (fun k => k != u) = (sAtL us i side).any (fun k => k != u) := by
 rw [Bool.eq_iff_iff, List.any_eq_true, List.any_eq_true]
 rw [List.all_eq_true] at h
 constructor
 ·rintro ⟨v, hv, hne⟩
  refine ⟨v, ?_, hne⟩
  obtain ⟨j, x, hj, ha, rfl⟩ := mem_atL.1 hv
  have := h _ hv
  unfold sideO at this
  rw [getI_nat, hj] at this
  simp at this
  exact mem_sAtL.2 ⟨j, x, hj, ha, this, rfl⟩
 ·rintro ⟨v, hv, hne⟩
  refine ⟨v, ?_, hne⟩
  obtain ⟨j, x, hj, ha, _, rfl⟩ := mem_sAtL.1 hv
  exact mem_atL.2 ⟨j, x, hj, ha, rfl⟩
def backB (b : DBoard) (s : DState) (x : DUnit) (u k : Int) : Bool :=
 decide (0 ≤ k) && (!decide (costL b x.Kind k = 0) && (decide (cnt s.Units k (1 - x.Side) = 0) && ((sAtL s.Units k x.Side).any (fun v => v != u) || !inZoneL b s.Units (1 - x.Side) k)))
def roomB (b : DBoard) (s : DState) (side i : Int) : Bool := decide (cnt s.Units i (1 - side) = 0) && decide ((cnt s.Units i side : Int) < b.Rules.Stack)
def fwdB (b : DBoard) (a i k : Int) : Bool := decide (distL (hexL b.Map a) (hexL b.Map k) = distL (hexL b.Map a) (hexL b.Map i) + 1)
def goB (b : DBoard) (s : DState) (x : DUnit) (u i d : Int) : Bool := backB b s x u (nextL b.Map i d) && fwdB b x.At i (nextL b.Map i d)
def backR (b : DBoard) (s : DState) (x : DUnit) (u : Int) : Nat → Int → List Int → List (List Int)
 | 0, i, p => if roomB b s x.Side i then [p] else []
 | n + 1, i, p => dl.flatMap fun d => if goB b s x u i d then backR b s x u n (nextL b.Map i d) (p ++ [d]) else []
theorem backR_len {b : DBoard} {s : DState} {x : DUnit} {u : Int} : ∀ (n : Nat) (i : Int) (p : List Int), (backR b s x u n i p).length ≤ 6 ^ n
 | 0, i, p => by unfold backR; split <;> simp
 | n + 1, i, p => by
  have key : ∀ l : List Int, (l.flatMap fun d => if goB b s x u i d then backR b s x u n (nextL b.Map i d) (p ++ [d]) else []).length ≤ l.length * 6 ^ n := by
   intro l
   induction l with
   | nil => simp
   | cons d l ih =>
    rw [List.flatMap_cons, List.length_append, List.length_cons, Nat.add_mul]
    have : (if goB b s x u i d then backR b s x u n (nextL b.Map i d) (p ++ [d]) else []).length ≤ 6 ^ n := by
     split
     ·exact backR_len n _ _
     ·simp
    omega
  have := key dl
  unfold backR
  rw [show dl.length = 6 from rfl] at this
  rw [Nat.pow_succ]
  omega
theorem cnt_put {us : List DUnit} {k : Nat} {y z : DUnit} (h : us[k]? = some y) (a t : Int) : cnt (us.set k z) a t + (if y.At = a ∧ y.Side = t then 1 else 0) = cnt us a t + (if z.At = a ∧ z.Side = t then 1 else 0) := by
 unfold cnt
 induction us generalizing k with
 | nil => simp at h
 | cons x us ih =>
  cases k with
  | zero =>
   simp only [List.getElem?_cons_zero, Option.some.injEq] at h
   subst h
   rw [List.set_cons_zero, List.filter_cons, List.filter_cons]
   by_cases h1 : x.At = a ∧ x.Side = t <;> by_cases h2 : z.At = a ∧ z.Side = t <;> simp [h1, h2]
  | succ k =>
   simp only [List.getElem?_cons_succ] at h
   have := ih h
   rw [List.set_cons_succ, List.filter_cons, List.filter_cons]
   split <;> (try simp only [List.length_cons]) <;> omega
theorem game_put {b : DBoard} {s : DState} (hg : gameB b s = true) {k : Nat} {y z : DUnit} (hy : s.Units[k]? = some y) (hz : unitB b z = true) (hs : z.Side = y.Side) (hyb : y.Side = 0 ∨ y.Side = 1)
  (hp : z.At < 0 ∨ z.At = y.At ∨ (cnt s.Units z.At (1 - y.Side) = 0 ∧ (cnt s.Units z.At y.Side : Int) < b.Rules.Stack)) (hu0 : ∀ u ∈ s.Units, u.Side = 0 ∨ u.Side = 1) : gameB b ⟨s.Turn, s.Weather, s.Units.set k z⟩ = true := by
 unfold gameB at hg ⊢
 rw [Bool.and_eq_true] at hg ⊢
 refine ⟨hg.1, ?_⟩
 have hq := hg.2
 unfold stateB at hq ⊢
 simp only [Bool.and_eq_true, List.all_eq_true, List.length_set] at hq ⊢
 have hpl : ∀ w ∈ s.Units, w.At < 0 ∨ (cnt s.Units w.At (1 - w.Side) = 0 ∧ (cnt s.Units w.At w.Side : Int) ≤ b.Rules.Stack) := fun w hw => by
  have := hq.2.2.2.2 w hw
  unfold placedB at this
  simpa only [Bool.or_eq_true, Bool.and_eq_true, decide_eq_true_eq] using this
 refine ⟨hq.1, hq.2.1, hq.2.2.1, fun u hu => ?_, fun u hu => ?_⟩
 ·rcases mem_set hu with h | h
  ·exact hq.2.2.2.1 u h
  ·subst h; exact hz
 ·unfold placedB
  simp only [Bool.or_eq_true, Bool.and_eq_true, decide_eq_true_eq]
  have c1 := cnt_put (z := z) hy u.At (1 - u.Side)
  have c2 := cnt_put (z := z) hy u.At u.Side
  have hyp := hpl y (mem_of_get hy)
  rcases mem_set hu with h | h
  ·have hup := hpl u h
   have hus := hu0 u h
   by_cases hneg : u.At < 0
   ·exact .inl hneg
   ·refine .inr ?_
    have hup := hup.resolve_left hneg
    rcases hp with hp | hp | hp
    ·rw [if_neg (c := z.At = u.At ∧ z.Side = 1 - u.Side) (by omega)] at c1
     rw [if_neg (c := z.At = u.At ∧ z.Side = u.Side) (by omega)] at c2
     omega
    ·rw [hp, hs] at c1 c2
     omega
    ·by_cases he : z.At = u.At
     ·by_cases hsd : u.Side = y.Side
      ·rw [← he, hsd] at c1 c2 ⊢
       rw [if_neg (c := z.At = z.At ∧ z.Side = 1 - y.Side) (by omega)] at c1
       rw [if_pos (c := z.At = z.At ∧ z.Side = y.Side) ⟨rfl, hs⟩] at c2
       omega
      ·exact absurd (cnt_zero.1 hp.1 u h ⟨he.symm, by omega⟩) (by simp)
     ·rw [if_neg (c := z.At = u.At ∧ z.Side = 1 - u.Side) (by omega)] at c1
      rw [if_neg (c := z.At = u.At ∧ z.Side = u.Side) (by omega)] at c2
      omega
  ·subst h
   rw [hs] at c1 c2 ⊢
   rw [if_neg (c := u.At = u.At ∧ y.Side = 1 - y.Side) (by omega)] at c1
   rw [if_pos (c := u.At = u.At ∧ y.Side = y.Side) ⟨rfl, rfl⟩] at c2
   rcases hp with hp | hp | hp
   ·exact .inl hp
   ·rw [if_pos (c := y.At = u.At ∧ y.Side = y.Side) ⟨hp.symm, rfl⟩] at c2
    rcases hyp with hyp | hyp
    ·exact .inl (by omega)
    ·rw [hp] at c1 c2 ⊢
     exact .inr (by omega)
   ·exact .inr (by omega)
theorem game_move {b : DBoard} {s : DState} (hg : gameB b s = true) (hn : BoardN b) {k : Nat} {y : DUnit} (hy : s.Units[k]? = some y) (h0 : 0 ≤ y.At) {p : Int} (hp0 : 0 ≤ p) (hp1 : p < b.Map.Width * b.Map.Height) (hc : costL b y.Kind p ≠ 0) (hr : roomB b s y.Side p = true) : gameB b ⟨s.Turn, s.Weather, s.Units.set k { y with At := p }⟩ = true := by
 have g := StateG.ofB hg hn
 have hm := mem_of_get hy
 have hb := g.u y hm
 have hst := on_steps g hm h0
 have hk := unit_kind hb
 have hce := (g.bg.cost_ex hk.1 hk.2 hp0 hp1).2
 unfold roomB at hr
 rw [Bool.and_eq_true, decide_eq_true_eq, decide_eq_true_eq] at hr
 refine game_put hg hy ?_ rfl (unit_side hb) (.inr (.inr hr)) fun u hu => unit_side (g.u u hu)
 unfold unitB at hb ⊢
 simp only [Bool.and_eq_true, Bool.or_eq_true, decide_eq_true_eq, inB_iff, beq_iff_eq] at hb ⊢
 exact ⟨hb.1, hb.2.1, hb.2.2.1, .inr ⟨by omega, by omega, by omega⟩⟩
theorem sideO_at {us : List DUnit} {v : Int} {w : DUnit} (h : getI us v = some w) : sideO us v = w.Side := by unfold sideO; rw [h]; rfl
theorem drop_at {α : Type} {l : List α} {k : Nat} {x : α} (h : l[k]? = some x) : l.drop k = x :: l.drop (k + 1) := by
 obtain ⟨h1, h2⟩ := List.getElem?_eq_some_iff.1 h
 rw [List.drop_eq_getElem_cons h1, h2]
theorem l_impl_canFallBack (b : DBoard) (s : DState) (x : DUnit) (u to : Int) (g : StateG b s) (hx : x.Side = 0 ∨ x.Side = 1) (h0 : 0 ≤ to) (h1 : to < b.Map.Width * b.Map.Height) (l : List Int) (hl : ∀ v ∈ l, ∃ w, getI s.Units v = some w) (hlen : l.length ≤ 100) :
  ∀ (m k : Nat) (own : Bool), k + m = l.length → L_impl_canFallBack_L6 b s x u to own l l.length k = some (en_impl_canFallBack ((l.drop k).all (fun v => sideO s.Units v == x.Side) && ((own || (l.drop k).any (fun v => v != u)) || !inZoneL b s.Units (1 - x.Side) to))) := by
 intro m
 induction m with
 | zero =>
  intro k own hk
  apply e_impl_canFallBack_L6
  rw [if_neg (by simp; omega), List.drop_eq_nil_of_le (by omega)]
  cases own with
  | true => rfl
  | false =>
   rw [if_neg (by simp), wrap_id (n := 1 - x.Side) (by omega) (by omega), cast_of inj_impl_inZone (c_impl_inZone _ _ _ _ g h0 h1)]
   cases inZoneL b s.Units (1 - x.Side) to <;> rfl
 | succ m ih =>
  intro k own hk
  have hlt : k < l.length := by omega
  have hv : l[k]? = some l[k] := List.getElem?_eq_getElem hlt
  obtain ⟨w, hw⟩ := hl _ (mem_of_get hv)
  apply e_impl_canFallBack_L6
  rw [if_pos (by simp; omega), ixA_at sl_cI rfl hv, ixA_get sl_cUnit _ _ hw, drop_at hv, wrap_id (n := (k : Int) + 1) (by omega) (by omega)]
  by_cases hs : w.Side = x.Side
  ·rw [if_neg (by simpa using hs)]
   have ih1 := fun own => ih (k + 1) own (by omega)
   simp only [Int.natCast_add, Int.natCast_one] at ih1
   rw [ih1, ih1]
   rw [List.all_cons, List.any_cons, sideO_at hw]
   cases own <;> simp [hs]
  ·rw [if_pos (by simpa using hs), List.all_cons, sideO_at hw]
   simp [hs, en_impl_canFallBack]
theorem c_impl_canFallBack (b : DBoard) (s : DState) (u to : Int) (g : StateG b s) {x : DUnit} (hx : getI s.Units u = some x) (hxm : x ∈ s.Units) (h1 : to < b.Map.Width * b.Map.Height) : A_impl_canFallBack b s u to = some (en_impl_canFallBack (backB b s x u to)) := by
 apply e_impl_canFallBack
 unfold backB
 have hsd := unit_side (g.u x hxm)
 have hk := unit_kind (g.u x hxm)
 have hl := g.len
 rw [ixA_get sl_cUnit _ _ hx]
 by_cases h0 : to < 0
 ·rw [if_pos (by simpa using h0)]
  simp [show ¬ 0 ≤ to by omega, en_impl_canFallBack]
 ·rw [if_neg (by simpa using h0), cast_of inj_impl_enterCost (c_impl_enterCost _ _ _ (g.bg.cost_ex hk.1 hk.2 (by omega) h1).1)]
  by_cases hc : costL b x.Kind to = 0
  ·rw [if_pos (by simpa using hc)]
   simp [hc, en_impl_canFallBack]
  ·rw [if_neg (by simpa using hc), cast_of inj_impl_unitsAt (c_impl_unitsAt _ _ (by omega))]
   have hal : (atL s.Units to).length ≤ s.Units.length := colI_len _ _ _
   have := l_impl_canFallBack b s x u to g hsd (by omega) h1 (atL s.Units to) (fun v hv => by
    obtain ⟨j, w, hj, _, rfl⟩ := mem_atL.1 hv
    exact ⟨w, by rw [getI_nat]; exact hj⟩) (by omega) (atL s.Units to).length 0 false (by omega)
   simp only [List.drop_zero, Int.ofNat_zero, Int.natCast_zero] at this
   rw [this]
   congr 1
   congr 1
   have e := at_all (us := s.Units) (i := to) (side := x.Side) (fun u hu => unit_side (g.u u hu)) hsd
   cases ha : (atL s.Units to).all (fun k => sideO s.Units k == x.Side) with
   | false =>
    rw [ha] at e
    simp [← e]
   | true =>
    rw [at_any ha, ← e, ha]
    simp [show 0 ≤ to by omega, hc]
theorem l_spec_gBack (u : Int) (l : List Int) (hl : l.length ≤ 100) : L_spec_gBack_L8 u l l.length 0 = some (en_spec_gBack (l.any fun v => v != u)) := by
 refine any_loop (fun k => L_spec_gBack_L8 u l l.length k) l (fun v => v != u) (some (en_spec_gBack true)) (some (en_spec_gBack false)) ?_ (fun k x hx hi => ?_) _ (by cases l.any _ <;> rfl)
 ·intro _ h; apply e_spec_gBack_L8
  rw [if_neg (by simp), ← h]; rfl
 ·intro _ h; apply e_spec_gBack_L8
  rw [if_pos (by simpa using hi), ixA_at sl_cI rfl hx, wrap_id (by omega) (by omega), ← h]; rfl
theorem c_spec_gBack (b : DBoard) (s : DState) (u i d : Int) (g : StateG b s) {x : DUnit} (hx : getI s.Units u = some x) (hxm : x ∈ s.Units) (hi : sm i) (h0 : 0 ≤ d) (h1 : d < 6) : A_spec_gBack b s u i d = some (en_spec_gBack (backB b s x u (nextL b.Map i d))) := by
 apply e_spec_gBack
 unfold backB
 have hsd := unit_side (g.u x hxm)
 have hk := unit_kind (g.u x hxm)
 have hl := g.len
 rw [ixA_get sl_cUnit _ _ hx, cast_of inj_spec_mNext (c_spec_mNext _ _ _ g.bg.s.b hi h0 h1)]
 generalize hn : nextL b.Map i d = k
 by_cases hk0 : k < 0
 ·rw [if_pos (by simpa using hk0)]
  simp [show ¬ 0 ≤ k by omega, en_spec_gBack]
 ·have hkl : k < b.Map.Width * b.Map.Height := by rw [← hn]; exact nextL_area g.bg.w0 g.bg.h0 i d
  rw [if_neg (by simpa using hk0), cast_of inj_spec_bCost (c_spec_bCost _ _ _ (g.bg.cost_ex hk.1 hk.2 (by omega) hkl).1)]
  by_cases hc : costL b x.Kind k = 0
  ·rw [if_pos (by simpa using hc)]
   simp [hc, en_spec_gBack]
  ·rw [if_neg (by simpa using hc), cast_of inj_spec_sAt (c_spec_sAt _ _ _ (by omega)), wrap_id (n := 1 - x.Side) (by omega) (by omega), sAtL_len]
   by_cases ho : cnt s.Units k (1 - x.Side) = 0
   ·rw [if_neg (by simpa using ho), cast_of inj_spec_zIn (c_spec_zIn _ _ _ _ g (by omega) hkl)]
    cases hz : inZoneL b s.Units (1 - x.Side) k with
    | false =>
     rw [if_pos (by simp)]
     simp [show 0 ≤ k by omega, hc, ho, en_spec_gBack]
    | true =>
     have hln : (sAtL s.Units k x.Side).length ≤ s.Units.length := by rw [sAtL_len]; exact List.length_filter_le _ _
     rw [if_neg (by simp), cast_of inj_spec_sAt (c_spec_sAt _ _ _ (by omega))]
     rw [l_spec_gBack u _ (by omega)]
     simp [show 0 ≤ k by omega, hc, ho]
   ·rw [if_pos (by simp; omega)]
    simp [ho, en_spec_gBack]
theorem c_spec_gRoom (b : DBoard) (s : DState) (side i : Int) (hl : s.Units.length < 1000000000000) (hs : side = 0 ∨ side = 1) : A_spec_gRoom b s side i = some (en_spec_gRoom (roomB b s side i)) := by
 apply e_spec_gRoom
 unfold roomB
 rw [wrap_id (n := 1 - side) (by omega) (by omega), cast_of inj_spec_sAt (c_spec_sAt _ _ _ hl), sAtL_len]
 by_cases ho : cnt s.Units i (1 - side) = 0
 ·rw [if_pos (by simpa using ho), cast_of inj_spec_sAt (c_spec_sAt _ _ _ hl), sAtL_len]
  simp [ho, en_spec_gRoom]
 ·rw [if_neg (by simpa using ho)]
  simp [ho, en_spec_gRoom]
theorem room_of {b : DBoard} {s : DState} (g : StateG b s) {side i : Int} (hs : side = 0 ∨ side = 1) (hi : 0 ≤ i) : decide (0 < if ownerL s.Units i = 1 - side then 0 else b.Rules.Stack - cnt s.Units i side) = roomB b s side i := by
 have h := owner_cnt g hi hs
 unfold roomB
 by_cases ho : cnt s.Units i (1 - side) = 0
 ·rw [if_neg (fun he => h.1 he ho)]
  simp only [ho, decide_true, Bool.true_and]
  rw [Bool.eq_iff_iff, decide_eq_true_eq, decide_eq_true_eq]
  omega
 ·rw [if_pos (h.2 ho)]
  simp [ho]
def restF (f : Int → List (List Int)) (k m : Nat) : List (List Int) := (List.range' k m).flatMap fun (d : Nat) => f (d : Int)
theorem restF_succ (f : Int → List (List Int)) (k m : Nat) : restF f k (m + 1) = f (k : Int) ++ restF f (k + 1) m := by unfold restF; rw [List.range'_succ, List.flatMap_cons]
theorem restF_all (f : Int → List (List Int)) : dl.flatMap f = restF f 0 6 := by unfold restF dl; rfl
def stepF (b : DBoard) (s : DState) (x : DUnit) (u : Int) (n : Nat) (i : Int) (p : List Int) (d : Int) : List (List Int) := if goB b s x u i d then backR b s x u n (nextL b.Map i d) (p ++ [d]) else []
theorem backR_succ (b : DBoard) (s : DState) (x : DUnit) (u : Int) (n : Nat) (i : Int) (p : List Int) : backR b s x u (n + 1) i p = restF (stepF b s x u n i p) 0 6 := by
 rw [← restF_all]; rfl
theorem distL_le {a b : DHex} (ha : hexB a) (hb : hexB b) : distL a b ≤ 1000000000 := by
 unfold hexB at ha hb
 unfold distL absI
 rw [Int.tdiv_eq_ediv_of_nonneg (by split <;> split <;> split <;> omega)]
 split <;> split <;> split <;> omega
theorem fwd_at {b : DBoard} (g : BoardG b) {a i k : Int} (ha : -1 ≤ a ∧ a < b.Map.Width * b.Map.Height) (hi : -1 ≤ i ∧ i < b.Map.Width * b.Map.Height) :
  (distL (hexL b.Map a) (hexL b.Map k) == IntKind.wrap .i64 (distL (hexL b.Map a) (hexL b.Map i) + 1)) = fwdB b a i k := by
 have h1 := distL_le (hexL_B g ha.1 ha.2) (hexL_B g hi.1 hi.2)
 have h2 := distL_nn (hexL b.Map a) (hexL b.Map i)
 rw [wrap_id (by omega) (by omega)]
 unfold fwdB
 rw [Bool.eq_iff_iff, beq_iff_eq, decide_eq_true_eq]
section
variable {b : DBoard} {s : DState} (g : StateG b s) {u : Int} {x : DUnit} (hx : getI s.Units u = some x) (hxm : x ∈ s.Units) (ha : 0 ≤ x.At)
include g hx hxm ha
theorem xAt_lt : x.At < b.Map.Width * b.Map.Height := (unit_place (g.u x hxm) ha).1
theorem l_impl_retreats (n : Nat) (ihr : ∀ (at_ : Int) (p : List Int) (out : List (List Int)), 0 ≤ at_ → at_ < b.Map.Width * b.Map.Height → p.length + n ≤ 1000 → out.length + 6 ^ n ≤ 100000 → A_impl_retreatsFrom_1 out b s u at_ n p = some (en_impl_retreatsFrom_1 (out ++ backR b s x u n at_ p)))
  (at_ : Int) (h0 : 0 ≤ at_) (h1 : at_ < b.Map.Width * b.Map.Height) (p : List Int) (hp : p.length + (n + 1) ≤ 1000) (hnb : n + 1 ≤ 1000) :
  (∀ (m k : Nat), k + m = 6 → ∀ out : List (List Int), out.length + m * 6 ^ n ≤ 100000 → L_impl_retreatsFrom_L7_3 out b s (hexL b.Map x.At) u at_ ((n : Int) + 1) p k = some (en_impl_retreatsFrom_1 (out ++ restF (stepF b s x u n at_ p) k m))) ∧
  (∀ (m k : Nat), k + m = 6 → ∀ out : List (List Int), out.length + m * 6 ^ n ≤ 100000 → L_impl_retreatsFrom_L7_2 out b s (hexL b.Map x.At) u at_ ((n : Int) + 1) p k = some (en_impl_retreatsFrom_1 (out ++ restF (stepF b s x u n at_ p) k m))) := by
 have hat := xAt_lt g hx hxm ha
 have har := g.bg.area
 have hmt := g.n.t
 have hh0 := hexL_B g.bg (i := x.At) (by omega) (by omega)
 have hh1 := hexL_B g.bg (i := at_) (by omega) (by omega)
 have key3 : ∀ (m k : Nat), k + m = 6 → ∀ out : List (List Int), out.length + m * 6 ^ n ≤ 100000 → L_impl_retreatsFrom_L7_3 out b s (hexL b.Map x.At) u at_ ((n : Int) + 1) p k = some (en_impl_retreatsFrom_1 (out ++ restF (stepF b s x u n at_ p) k m)) := by
  intro m
  induction m with
  | zero =>
   intro k hk out _
   apply e_impl_retreatsFrom_L7_3
   rw [if_neg (by simp; omega)]
   simp [restF, en_impl_retreatsFrom_1]
  | succ m ih =>
   intro k hk out ho
   rw [Nat.add_mul] at ho
   have hn0 := nextL_b g.bg.s.b (m := b.Map) at_ k
   have hn1 := nextL_area g.bg.w0 g.bg.h0 at_ (k : Int)
   apply e_impl_retreatsFrom_L7_3
   rw [if_pos (by simp; omega), cast_of inj_impl_nextTo (c_impl_nextTo _ _ _ g.bg.s.b (by unfold sm; omega) (by omega) (by omega)), cast_of inj_impl_canFallBack (c_impl_canFallBack _ _ _ _ g hx hxm hn1), restF_succ, wrap_id (n := (k : Int) + 1) (by omega) (by omega)]
   have ih1 := ih (k + 1) (by omega)
   simp only [Int.natCast_add, Int.natCast_one] at ih1
   have hgo : goB b s x u at_ (k : Int) = (backB b s x u (nextL b.Map at_ k) && fwdB b x.At at_ (nextL b.Map at_ k)) := rfl
   cases hb : backB b s x u (nextL b.Map at_ k) with
   | false =>
    rw [if_neg (by simp), ih1 out (by omega), show stepF b s x u n at_ p k = [] by unfold stepF; rw [hgo, hb]; rfl, List.nil_append]
   | true =>
    have hn2 : 0 ≤ nextL b.Map at_ k := by unfold backB at hb; simp only [Bool.and_eq_true, decide_eq_true_eq] at hb; exact hb.1
    have hh2 := hexL_B g.bg (i := nextL b.Map at_ k) (by omega) hn1
    rw [if_pos rfl, cast_of inj_impl_hexOf (c_impl_hexOf _ _ g.bg.s.b (by unfold sm; omega)), cast_of inj_impl_distance (c_impl_distance _ _ hh0 hh2), cast_of inj_impl_hexOf (c_impl_hexOf _ _ g.bg.s.b (by unfold sm; omega)), cast_of inj_impl_distance (c_impl_distance _ _ hh0 hh1)]
    rw [fwd_at g.bg (by omega) (by omega)]
    cases hf : fwdB b x.At at_ (nextL b.Map at_ k) with
    | false =>
     rw [if_neg (by simp), ih1 out (by omega), show stepF b s x u n at_ p k = [] by unfold stepF; rw [hgo, hb, hf]; rfl, List.nil_append]
    | true =>
     rw [if_pos rfl, cast_of inj_slices_Clone_int (c_slices_Clone_int _ (by omega)), apR_eq rt_cI rfl (xs := [(k : Int)]) (Src.row (n := 1) ok_cI rfl rfl) rfl rfl (by simp; omega) (by simp; omega) rfl, gvc_at ok_cI rfl, wrap_id (n := (n : Int) + 1 - 1) (by omega) (by omega), show (n : Int) + 1 - 1 = n by omega]
     rw [cast_of inj_impl_retreatsFrom_1 (ihr _ _ _ hn2 hn1 (by simp; omega) (by omega))]
     have hl := backR_len (b := b) (s := s) (x := x) (u := u) n (nextL b.Map at_ k) (p ++ [(k : Int)])
     rw [ih1 _ (by rw [List.length_append]; omega), show stepF b s x u n at_ p k = backR b s x u n (nextL b.Map at_ k) (p ++ [(k : Int)]) by unfold stepF; rw [hgo, hb, hf]; rfl, List.append_assoc]
 refine ⟨key3, ?_⟩
 intro m
 induction m with
 | zero =>
  intro k hk out _
  apply e_impl_retreatsFrom_L7_2
  rw [if_neg (by simp; omega)]
  simp [restF, en_impl_retreatsFrom_1]
 | succ m ih =>
  intro k hk out ho
  rw [Nat.add_mul] at ho
  have hn0 := nextL_b g.bg.s.b (m := b.Map) at_ k
  have hn1 := nextL_area g.bg.w0 g.bg.h0 at_ (k : Int)
  apply e_impl_retreatsFrom_L7_2
  rw [if_pos (by simp; omega), cast_of inj_impl_nextTo (c_impl_nextTo _ _ _ g.bg.s.b (by unfold sm; omega) (by omega) (by omega)), cast_of inj_impl_canFallBack (c_impl_canFallBack _ _ _ _ g hx hxm hn1), restF_succ, wrap_id (n := (k : Int) + 1) (by omega) (by omega)]
  have ih1 := ih (k + 1) (by omega)
  have ih3 := key3 m (k + 1) (by omega)
  simp only [Int.natCast_add, Int.natCast_one] at ih1 ih3
  have hgo : goB b s x u at_ (k : Int) = (backB b s x u (nextL b.Map at_ k) && fwdB b x.At at_ (nextL b.Map at_ k)) := rfl
  cases hb : backB b s x u (nextL b.Map at_ k) with
  | false =>
   rw [if_neg (by simp), ih1 out (by omega), show stepF b s x u n at_ p k = [] by unfold stepF; rw [hgo, hb]; rfl, List.nil_append]
  | true =>
   have hn2 : 0 ≤ nextL b.Map at_ k := by unfold backB at hb; simp only [Bool.and_eq_true, decide_eq_true_eq] at hb; exact hb.1
   have hh2 := hexL_B g.bg (i := nextL b.Map at_ k) (by omega) hn1
   rw [if_pos rfl, cast_of inj_impl_hexOf (c_impl_hexOf _ _ g.bg.s.b (by unfold sm; omega)), cast_of inj_impl_distance (c_impl_distance _ _ hh0 hh2), cast_of inj_impl_hexOf (c_impl_hexOf _ _ g.bg.s.b (by unfold sm; omega)), cast_of inj_impl_distance (c_impl_distance _ _ hh0 hh1)]
   rw [fwd_at g.bg (by omega) (by omega)]
   cases hf : fwdB b x.At at_ (nextL b.Map at_ k) with
   | false =>
    rw [if_neg (by simp), ih1 out (by omega), show stepF b s x u n at_ p k = [] by unfold stepF; rw [hgo, hb, hf]; rfl, List.nil_append]
   | true =>
    rw [if_pos rfl, cast_of inj_slices_Clone_int (c_slices_Clone_int _ (by omega)), apR_eq rt_cI rfl (xs := [(k : Int)]) (Src.row (n := 1) ok_cI rfl rfl) rfl rfl (by simp; omega) (by simp; omega) rfl, gvc_at ok_cI rfl, wrap_id (n := (n : Int) + 1 - 1) (by omega) (by omega), show (n : Int) + 1 - 1 = n by omega]
    rw [cast_of inj_impl_retreatsFrom_1 (ihr _ _ _ hn2 hn1 (by simp; omega) (by omega))]
    have hl := backR_len (b := b) (s := s) (x := x) (u := u) n (nextL b.Map at_ k) (p ++ [(k : Int)])
    rw [ih3 _ (by rw [List.length_append]; omega), show stepF b s x u n at_ p k = backR b s x u n (nextL b.Map at_ k) (p ++ [(k : Int)]) by unfold stepF; rw [hgo, hb, hf]; rfl, List.append_assoc]
theorem c_impl_retreatsFrom_1 : ∀ (n : Nat) (at_ : Int) (p : List Int) (out : List (List Int)), 0 ≤ at_ → at_ < b.Map.Width * b.Map.Height → p.length + n ≤ 1000 → out.length + 6 ^ n ≤ 100000 → A_impl_retreatsFrom_1 out b s u at_ n p = some (en_impl_retreatsFrom_1 (out ++ backR b s x u n at_ p))
 | 0, at_, p, out, h0, h1, hp, ho => by
  have hat := xAt_lt g hx hxm ha
  have har := g.bg.area
  have hmt := g.n.t
  have hsd := unit_side (g.u x hxm)
  apply e_impl_retreatsFrom_1
  rw [ixA_get sl_cUnit _ _ hx, cast_of inj_impl_hexOf (c_impl_hexOf _ _ g.bg.s.b (by unfold sm; omega)), if_pos (by rfl), ixA_get sl_cUnit _ _ hx, cast_of inj_impl_stackRoom (c_impl_stackRoom _ _ _ _ g hsd h0), room_of g hsd h0]
  unfold backR
  cases roomB b s x.Side at_ with
  | false => simp [en_impl_retreatsFrom_1]
  | true =>
   rw [if_pos rfl, cast_of inj_slices_Clone_int (c_slices_Clone_int _ (by omega))]
   rw [bsA_one ok_cLI (by omega) (by omega) (by obtain ⟨et, z, h1, h2, _, h3, h4⟩ := rt_cLI.ex; exact ⟨et, z, h1, h2, h3, h4⟩) (a := p) rfl rfl (haC (i1 := [.r 42 0]) (i2 := []) (haF (r := []) ok_cI (by simp; rfl) (Nat.le_refl _)) rfl rfl) rfl rfl]
   rw [apR_eq rt_cLI rfl (xs := [p]) (Src.row (n := 1) ok_cLI rfl rfl) rfl rfl (by simp; omega) (by simp; omega) rfl]
   rfl
 | n + 1, at_, p, out, h0, h1, hp, ho => by
  have hat := xAt_lt g hx hxm ha
  have har := g.bg.area
  have hmt := g.n.t
  apply e_impl_retreatsFrom_1
  rw [ixA_get sl_cUnit _ _ hx, cast_of inj_impl_hexOf (c_impl_hexOf _ _ g.bg.s.b (by unfold sm; omega)), if_neg (by simp; omega)]
  rw [Nat.pow_succ] at ho
  have := (l_impl_retreats g hx hxm ha n (c_impl_retreatsFrom_1 n) at_ h0 h1 p hp (by omega)).2 6 0 (by omega) out (by omega)
  simp only [Int.natCast_add, Int.natCast_one, Int.natCast_zero, Int.ofNat_zero] at this ⊢
  rw [this, backR_succ]
end
section
variable {b : DBoard} {s : DState} (g : StateG b s) {u : Int} {x : DUnit} (hx : getI s.Units u = some x) (hxm : x ∈ s.Units) (ha : 0 ≤ x.At)
include g hx hxm ha
theorem l_impl_retreats0 (n : Nat) (at_ : Int) (h0 : 0 ≤ at_) (h1 : at_ < b.Map.Width * b.Map.Height) (p : List Int) (hp : p.length + (n + 1) ≤ 1000) (hnb : n + 1 ≤ 1000) :
  (∀ (m k : Nat), k + m = 6 → ∀ out : List (List Int), out.length + m * 6 ^ n ≤ 100000 → L_impl_retreatsFrom_L7_1 out b s (hexL b.Map x.At) u at_ ((n : Int) + 1) p k = some (en_impl_retreatsFrom (out ++ restF (stepF b s x u n at_ p) k m))) ∧
  (∀ (m k : Nat), k + m = 6 → ∀ out : List (List Int), out.length + m * 6 ^ n ≤ 100000 → L_impl_retreatsFrom_L7 out b s (hexL b.Map x.At) u at_ ((n : Int) + 1) p k = some (en_impl_retreatsFrom (out ++ restF (stepF b s x u n at_ p) k m))) := by
 have hat := xAt_lt g hx hxm ha
 have har := g.bg.area
 have hmt := g.n.t
 have ihr := c_impl_retreatsFrom_1 g hx hxm ha n
 have hh0 := hexL_B g.bg (i := x.At) (by omega) (by omega)
 have hh1 := hexL_B g.bg (i := at_) (by omega) (by omega)
 have key3 : ∀ (m k : Nat), k + m = 6 → ∀ out : List (List Int), out.length + m * 6 ^ n ≤ 100000 → L_impl_retreatsFrom_L7_1 out b s (hexL b.Map x.At) u at_ ((n : Int) + 1) p k = some (en_impl_retreatsFrom (out ++ restF (stepF b s x u n at_ p) k m)) := by
  intro m
  induction m with
  | zero =>
   intro k hk out _
   apply e_impl_retreatsFrom_L7_1
   rw [if_neg (by simp; omega)]
   simp [restF, en_impl_retreatsFrom]
  | succ m ih =>
   intro k hk out ho
   rw [Nat.add_mul] at ho
   have hn0 := nextL_b g.bg.s.b (m := b.Map) at_ k
   have hn1 := nextL_area g.bg.w0 g.bg.h0 at_ (k : Int)
   apply e_impl_retreatsFrom_L7_1
   rw [if_pos (by simp; omega), cast_of inj_impl_nextTo (c_impl_nextTo _ _ _ g.bg.s.b (by unfold sm; omega) (by omega) (by omega)), cast_of inj_impl_canFallBack (c_impl_canFallBack _ _ _ _ g hx hxm hn1), restF_succ, wrap_id (n := (k : Int) + 1) (by omega) (by omega)]
   have ih1 := ih (k + 1) (by omega)
   simp only [Int.natCast_add, Int.natCast_one] at ih1
   have hgo : goB b s x u at_ (k : Int) = (backB b s x u (nextL b.Map at_ k) && fwdB b x.At at_ (nextL b.Map at_ k)) := rfl
   cases hb : backB b s x u (nextL b.Map at_ k) with
   | false =>
    rw [if_neg (by simp), ih1 out (by omega), show stepF b s x u n at_ p k = [] by unfold stepF; rw [hgo, hb]; rfl, List.nil_append]
   | true =>
    have hn2 : 0 ≤ nextL b.Map at_ k := by unfold backB at hb; simp only [Bool.and_eq_true, decide_eq_true_eq] at hb; exact hb.1
    have hh2 := hexL_B g.bg (i := nextL b.Map at_ k) (by omega) hn1
    rw [if_pos rfl, cast_of inj_impl_hexOf (c_impl_hexOf _ _ g.bg.s.b (by unfold sm; omega)), cast_of inj_impl_distance (c_impl_distance _ _ hh0 hh2), cast_of inj_impl_hexOf (c_impl_hexOf _ _ g.bg.s.b (by unfold sm; omega)), cast_of inj_impl_distance (c_impl_distance _ _ hh0 hh1)]
    rw [fwd_at g.bg (by omega) (by omega)]
    cases hf : fwdB b x.At at_ (nextL b.Map at_ k) with
    | false =>
     rw [if_neg (by simp), ih1 out (by omega), show stepF b s x u n at_ p k = [] by unfold stepF; rw [hgo, hb, hf]; rfl, List.nil_append]
    | true =>
     rw [if_pos rfl, cast_of inj_slices_Clone_int (c_slices_Clone_int _ (by omega)), apR_eq rt_cI rfl (xs := [(k : Int)]) (Src.row (n := 1) ok_cI rfl rfl) rfl rfl (by simp; omega) (by simp; omega) rfl, gvc_at ok_cI rfl, wrap_id (n := (n : Int) + 1 - 1) (by omega) (by omega), show (n : Int) + 1 - 1 = n by omega]
     rw [cast_of inj_impl_retreatsFrom_1 (ihr _ _ _ hn2 hn1 (by simp; omega) (by omega))]
     have hl := backR_len (b := b) (s := s) (x := x) (u := u) n (nextL b.Map at_ k) (p ++ [(k : Int)])
     rw [ih1 _ (by rw [List.length_append]; omega), show stepF b s x u n at_ p k = backR b s x u n (nextL b.Map at_ k) (p ++ [(k : Int)]) by unfold stepF; rw [hgo, hb, hf]; rfl, List.append_assoc]
 refine ⟨key3, ?_⟩
 intro m
 induction m with
 | zero =>
  intro k hk out _
  apply e_impl_retreatsFrom_L7
  rw [if_neg (by simp; omega)]
  simp [restF, en_impl_retreatsFrom]
 | succ m ih =>
  intro k hk out ho
  rw [Nat.add_mul] at ho
  have hn0 := nextL_b g.bg.s.b (m := b.Map) at_ k
  have hn1 := nextL_area g.bg.w0 g.bg.h0 at_ (k : Int)
  apply e_impl_retreatsFrom_L7
  rw [if_pos (by simp; omega), cast_of inj_impl_nextTo (c_impl_nextTo _ _ _ g.bg.s.b (by unfold sm; omega) (by omega) (by omega)), cast_of inj_impl_canFallBack (c_impl_canFallBack _ _ _ _ g hx hxm hn1), restF_succ, wrap_id (n := (k : Int) + 1) (by omega) (by omega)]
  have ih1 := ih (k + 1) (by omega)
  have ih3 := key3 m (k + 1) (by omega)
  simp only [Int.natCast_add, Int.natCast_one] at ih1 ih3
  have hgo : goB b s x u at_ (k : Int) = (backB b s x u (nextL b.Map at_ k) && fwdB b x.At at_ (nextL b.Map at_ k)) := rfl
  cases hb : backB b s x u (nextL b.Map at_ k) with
  | false =>
   rw [if_neg (by simp), ih3 out (by omega), show stepF b s x u n at_ p k = [] by unfold stepF; rw [hgo, hb]; rfl, List.nil_append]
  | true =>
   have hn2 : 0 ≤ nextL b.Map at_ k := by unfold backB at hb; simp only [Bool.and_eq_true, decide_eq_true_eq] at hb; exact hb.1
   have hh2 := hexL_B g.bg (i := nextL b.Map at_ k) (by omega) hn1
   rw [if_pos rfl, cast_of inj_impl_hexOf (c_impl_hexOf _ _ g.bg.s.b (by unfold sm; omega)), cast_of inj_impl_distance (c_impl_distance _ _ hh0 hh2), cast_of inj_impl_hexOf (c_impl_hexOf _ _ g.bg.s.b (by unfold sm; omega)), cast_of inj_impl_distance (c_impl_distance _ _ hh0 hh1)]
   rw [fwd_at g.bg (by omega) (by omega)]
   cases hf : fwdB b x.At at_ (nextL b.Map at_ k) with
   | false =>
    rw [if_neg (by simp), ih3 out (by omega), show stepF b s x u n at_ p k = [] by unfold stepF; rw [hgo, hb, hf]; rfl, List.nil_append]
   | true =>
    rw [if_pos rfl, cast_of inj_slices_Clone_int (c_slices_Clone_int _ (by omega)), apR_eq rt_cI rfl (xs := [(k : Int)]) (Src.row (n := 1) ok_cI rfl rfl) rfl rfl (by simp; omega) (by simp; omega) rfl, gvc_at ok_cI rfl, wrap_id (n := (n : Int) + 1 - 1) (by omega) (by omega), show (n : Int) + 1 - 1 = n by omega]
    rw [cast_of inj_impl_retreatsFrom_1 (ihr _ _ _ hn2 hn1 (by simp; omega) (by omega))]
    have hl := backR_len (b := b) (s := s) (x := x) (u := u) n (nextL b.Map at_ k) (p ++ [(k : Int)])
    rw [ih3 _ (by rw [List.length_append]; omega), show stepF b s x u n at_ p k = backR b s x u n (nextL b.Map at_ k) (p ++ [(k : Int)]) by unfold stepF; rw [hgo, hb, hf]; rfl, List.append_assoc]
theorem c_impl_retreatsFrom (n : Nat) (at_ : Int) (p : List Int) (h0 : 0 ≤ at_) (h1 : at_ < b.Map.Width * b.Map.Height) (hp : p.length + n ≤ 1000) (ho : 6 ^ n ≤ 100000) : A_impl_retreatsFrom b s u at_ n p = some (en_impl_retreatsFrom (backR b s x u n at_ p)) := by
 have hat := xAt_lt g hx hxm ha
 have har := g.bg.area
 have hmt := g.n.t
 have hsd := unit_side (g.u x hxm)
 apply e_impl_retreatsFrom
 rw [ixA_get sl_cUnit _ _ hx, cast_of inj_impl_hexOf (c_impl_hexOf _ _ g.bg.s.b (by unfold sm; omega))]
 cases n with
 | zero =>
  rw [if_pos (by rfl), ixA_get sl_cUnit _ _ hx, cast_of inj_impl_stackRoom (c_impl_stackRoom _ _ _ _ g hsd h0), room_of g hsd h0]
  unfold backR
  cases roomB b s x.Side at_ with
  | false => rfl
  | true =>
   rw [if_pos rfl, cast_of inj_slices_Clone_int (c_slices_Clone_int _ (by omega))]
   rw [bsA_one ok_cLI (by omega) (by omega) (by obtain ⟨et, z, h1, h2, _, h3, h4⟩ := rt_cLI.ex; exact ⟨et, z, h1, h2, h3, h4⟩) (a := p) rfl rfl (haC (i1 := [.r 42 0]) (i2 := []) (haF (r := []) ok_cI (by simp; rfl) (Nat.le_refl _)) rfl rfl) rfl rfl]
   rw [apN_eq rt_cLI (xs := [p]) (Src.row (n := 1) ok_cLI rfl rfl) rfl (by simp) (by simp)]
   rfl
 | succ n =>
  rw [if_neg (by simp; omega)]
  rw [Nat.pow_succ] at ho
  have := (l_impl_retreats0 g hx hxm ha n at_ h0 h1 p hp (by omega)).2 6 0 (by omega) [] (by simp; omega)
  simp only [Int.natCast_add, Int.natCast_one, Int.natCast_zero, Int.ofNat_zero] at this ⊢
  rw [this, backR_succ]
  rfl
theorem c_impl_retreatsOf (n : Nat) (hn : n ≤ 3) : A_impl_retreatsOf b s u n = some (en_impl_retreatsOf (backR b s x u n x.At [])) := by
 have hat := xAt_lt g hx hxm ha
 apply e_impl_retreatsOf
 have h6 : 6 ^ n ≤ 216 := Nat.le_trans (Nat.pow_le_pow_right (by omega) hn) (by omega)
 rw [ixA_get sl_cUnit _ _ hx]
 refine Eq.trans (cast_of (slc_inj ok_cI) (a := ([] : List Int)) rfl _) ?_
 rw [cast_of inj_impl_retreatsFrom (c_impl_retreatsFrom g hx hxm ha n x.At [] ha hat (by simp; omega) (by omega)), give_at ok_cLI rfl]
 rfl
theorem l_spec_gPaths (n : Nat) (ihr : ∀ (i : Int) (p : List Int), 0 ≤ i → i < b.Map.Width * b.Map.Height → p.length + n ≤ 1000 → 6 ^ n ≤ 100000 → A_spec_gPaths b s u i n p = some (en_spec_gPaths (backR b s x u n i p)))
  (i : Int) (h0 : 0 ≤ i) (h1 : i < b.Map.Width * b.Map.Height) (p : List Int) (hp : p.length + (n + 1) ≤ 1000) :
  ∀ (m k : Nat), k + m = 6 → ∀ out : List (List Int), out.length + m * 6 ^ n ≤ 100000 → L_spec_gPaths_L8 out b s x u i ((n : Int) + 1) p k = some (en_spec_gPaths (out ++ restF (stepF b s x u n i p) k m)) := by
 have hat := xAt_lt g hx hxm ha
 have har := g.bg.area
 have hmt := g.n.t
 have hh0 := hexL_B g.bg (i := x.At) (by omega) (by omega)
 have hh1 := hexL_B g.bg (i := i) (by omega) (by omega)
 intro m
 induction m with
 | zero =>
  intro k hk out _
  apply e_spec_gPaths_L8
  rw [if_neg (by simp; omega), give_at ok_cLI rfl]
  simp [restF, en_spec_gPaths]
 | succ m ih =>
  intro k hk out ho
  rw [Nat.add_mul] at ho
  have hn0 := nextL_b g.bg.s.b (m := b.Map) i k
  have hn1 := nextL_area g.bg.w0 g.bg.h0 i (k : Int)
  apply e_spec_gPaths_L8
  rw [if_pos (by simp; omega), cast_of inj_spec_gBack (c_spec_gBack _ _ _ _ _ g hx hxm (by unfold sm; omega) (by omega) (by omega)), restF_succ, wrap_id (n := (k : Int) + 1) (by omega) (by omega)]
  have ih1 := ih (k + 1) (by omega)
  simp only [Int.natCast_add, Int.natCast_one] at ih1
  have hgo : goB b s x u i (k : Int) = (backB b s x u (nextL b.Map i k) && fwdB b x.At i (nextL b.Map i k)) := rfl
  cases hb : backB b s x u (nextL b.Map i k) with
  | false =>
   rw [if_pos (by simp), ih1 out (by omega), show stepF b s x u n i p k = [] by unfold stepF; rw [hgo, hb]; rfl, List.nil_append]
  | true =>
   have hn2 : 0 ≤ nextL b.Map i k := by unfold backB at hb; simp only [Bool.and_eq_true, decide_eq_true_eq] at hb; exact hb.1
   have hh2 := hexL_B g.bg (i := nextL b.Map i k) (by omega) hn1
   rw [if_neg (by simp), cast_of inj_spec_mNext (c_spec_mNext _ _ _ g.bg.s.b (by unfold sm; omega) (by omega) (by omega)), cast_of inj_spec_mHex (c_spec_mHex _ _ g.bg.s.b (by unfold sm; omega)), cast_of inj_spec_mHex (c_spec_mHex _ _ g.bg.s.b (by unfold sm; omega)), cast_of inj_spec_hDistance (c_spec_hDistance _ _ hh0 hh2), cast_of inj_spec_mHex (c_spec_mHex _ _ g.bg.s.b (by unfold sm; omega)), cast_of inj_spec_hDistance (c_spec_hDistance _ _ hh0 hh1)]
   rw [fwd_at g.bg (by omega) (by omega)]
   cases hf : fwdB b x.At i (nextL b.Map i k) with
   | false =>
    rw [if_neg (by simp), ih1 out (by omega), show stepF b s x u n i p k = [] by unfold stepF; rw [hgo, hb, hf]; rfl, List.nil_append]
   | true =>
    rw [if_pos rfl, cast_of inj_spec_l1Own (c_spec_l1Own _ (by omega)), apR_eq rt_cI rfl (xs := [(k : Int)]) (Src.row (n := 1) ok_cI rfl rfl) rfl rfl (by simp; omega) (by simp; omega) rfl, gvc_at ok_cI rfl, wrap_id (n := (n : Int) + 1 - 1) (by omega) (by omega), show (n : Int) + 1 - 1 = n by omega]
    rw [cast_of inj_spec_gPaths (ihr _ _ hn2 hn1 (by simp; omega) (by omega))]
    have hl := backR_len (b := b) (s := s) (x := x) (u := u) n (nextL b.Map i k) (p ++ [(k : Int)])
    rw [apR_eq rt_cLI rfl (Src.slc ok_cLI _) rfl rfl (by omega) (by omega) rfl]
    rw [ih1 _ (by rw [List.length_append]; omega), show stepF b s x u n i p k = backR b s x u n (nextL b.Map i k) (p ++ [(k : Int)]) by unfold stepF; rw [hgo, hb, hf]; rfl, List.append_assoc]
theorem c_spec_gPaths : ∀ (n : Nat) (i : Int) (p : List Int), 0 ≤ i → i < b.Map.Width * b.Map.Height → p.length + n ≤ 1000 → 6 ^ n ≤ 100000 → A_spec_gPaths b s u i n p = some (en_spec_gPaths (backR b s x u n i p))
 | 0, i, p, h0, h1, hp, ho => by
  have hl := g.len
  have hsd := unit_side (g.u x hxm)
  apply e_spec_gPaths
  rw [ixA_get sl_cUnit _ _ hx, if_pos (by rfl), cast_of inj_spec_gRoom (c_spec_gRoom _ _ _ _ (by omega) hsd)]
  unfold backR
  cases roomB b s x.Side i with
  | false => rfl
  | true =>
   rw [if_pos rfl, cast_of inj_spec_l1Own (c_spec_l1Own _ (by omega))]
   rw [bsA_one ok_cLI (by omega) (by omega) (by obtain ⟨et, z, h1, h2, _, h3, h4⟩ := rt_cLI.ex; exact ⟨et, z, h1, h2, h3, h4⟩) (a := p) rfl rfl (haC (i1 := [.r 32 0]) (i2 := []) (haF (r := []) ok_cI (by simp; rfl) (Nat.le_refl _)) rfl rfl) rfl rfl]
   exact (give_at (l := [p]) ok_cLI rfl _).trans rfl
 | n + 1, i, p, h0, h1, hp, ho => by
  apply e_spec_gPaths
  rw [ixA_get sl_cUnit _ _ hx, if_neg (by simp; omega)]
  rw [Nat.pow_succ] at ho
  have := l_spec_gPaths g hx hxm ha n (c_spec_gPaths n) i h0 h1 p hp 6 0 (by omega) [] (by simp; omega)
  simp only [Int.natCast_add, Int.natCast_one, Int.natCast_zero, Int.ofNat_zero] at this ⊢
  rw [this, backR_succ]
  rfl
theorem c_spec_gAll (n : Nat) (hn : n ≤ 3) : A_spec_gAll b s u n = some (en_spec_gAll (backR b s x u n x.At [])) := by
 have hat := xAt_lt g hx hxm ha
 have h6 : 6 ^ n ≤ 216 := Nat.le_trans (Nat.pow_le_pow_right (by omega) hn) (by omega)
 apply e_spec_gAll
 rw [ixA_get sl_cUnit _ _ hx, cast_of inj_spec_gPaths (c_spec_gPaths g hx hxm ha n x.At [] ha hat (by simp; omega) (by omega))]
 rfl
end
def askR (b : DBoard) (s : DState) (u n : Int) : Bool := (gameB b s && onMapB s.Units u) && inB 1 3 n
theorem onMap_ex {us : List DUnit} {u : Int} (h : onMapB us u = true) : ∃ x, getI us u = some x ∧ 0 ≤ x.At := by
 unfold onMapB at h
 cases hg : getI us u with
 | none => rw [hg] at h; simp at h
 | some x => rw [hg] at h; exact ⟨x, rfl, by simpa using h⟩
theorem askR_ex {b : DBoard} {s : DState} {u n : Int} (h : askR b s u n = true) : gameB b s = true ∧ (∃ x, getI s.Units u = some x ∧ 0 ≤ x.At) ∧ 1 ≤ n ∧ n ≤ 3 := by
 unfold askR at h
 rw [Bool.and_eq_true, Bool.and_eq_true, inB_iff] at h
 exact ⟨h.1.1, onMap_ex h.1.2, h.2.1, h.2.2⟩
theorem c_impl_isRetreat (b : DBoard) (s : DState) (u n : Int) (hn : BoardN b) (hs : s.Units.length < 1000000000000) : A_impl_isRetreat b s u n = some (en_impl_isRetreat (askR b s u n)) := by
 apply e_impl_isRetreat
 unfold askR
 rw [cast_of inj_impl_onMap (c_impl_onMap _ _ _ hn hs)]
 simp only [kk_impl_inRange]
 cases gameB b s && onMapB s.Units u <;> rfl
theorem c_spec_fOn (b : DBoard) (s : DState) (u : Int) (hn : BoardN b) (hs : s.Units.length < 1000000000000) : A_spec_fOn b s u = some (en_spec_fOn (gameB b s && onMapB s.Units u)) := by
 apply e_spec_fOn
 have hg : (boardB b && stateB b s) = gameB b s := rfl
 rw [cast_of inj_spec_sGood (c_spec_sGood _ _ hn hs), hg]
 cases gameB b s with
 | false => rfl
 | true =>
  simp only [kk_spec_l1In]
  rw [wrap_id (n := (s.Units.length : Int) - 1) (by omega) (by omega), if_pos trivial]
  cases hu : inB 0 ((s.Units.length : Int) - 1) u with
  | false =>
   have : getI s.Units u = none := by
    rw [← Bool.not_eq_true, inB_iff] at hu
    unfold getI
    split
    ·rw [List.getElem?_eq_none (by omega)]
    ·rfl
   simp [onMapB, this, en_spec_fOn]
  | true =>
   rw [inB_iff] at hu
   obtain ⟨x, hx⟩ := getI_ex (l := s.Units) hu.1 (by omega)
   rw [if_pos rfl, ixA_get sl_cUnit _ _ hx, onMap_spec hx]
   rfl
theorem c_spec_fDo (s : DState) (hl : s.Units.length < 1000000000000) : A_spec_fDo s [] = some (en_spec_fDo s) := by
 apply e_spec_fDo
 rw [apR_eq rt_cUnit (l := []) (n := 0) (xs := s.Units) rfl (Src.slc ok_cUnit _) rfl rfl (by simp; omega) (by simp; omega) rfl]
 apply e_spec_fDo_L3
 rw [if_neg (by simp)]
 simp only [List.nil_append]
 rfl
section
variable {b : DBoard} {s : DState} (g : StateG b s) (hn : BoardN b) {u : Int} {x : DUnit} (hx : getI s.Units u = some x) (ha : 0 ≤ x.At) {n : Int} (h1 : 1 ≤ n) (h3 : n ≤ 3)
include g hx ha h1 h3
end
theorem inj_si : Inj fun a : DState × Int => AV.tup [AV.agg [I a.fst.Turn, I a.fst.Weather, slc cUnit a.fst.Units], I a.snd] := fun a b h => by
 injection h with h
 injection h with h1 h
 injection h with h2 h
 injection h2 with h2
 injection h2 with _ h2
 exact Prod.ext (inj_state _ _ h1) h2
structure AllG (b : DBoard) (s : DState) (l : List Int) : Prop where
 g : gameB b s = true
 r : risingB l = true
 o : ∀ u ∈ l, onMapB s.Units u = true
def areB (b : DBoard) (s : DState) (l : List Int) : Bool := gameB b s && (risingB l && l.all (onMapB s.Units))
theorem areB_all {b : DBoard} {s : DState} {l : List Int} (h : areB b s l = true) : AllG b s l := by
 unfold areB at h
 simp only [Bool.and_eq_true, List.all_eq_true] at h
 exact ⟨h.1, h.2.1, h.2.2⟩
theorem c_impl_areOnMap (b : DBoard) (s : DState) (l : List Int) (hn : BoardN b) (hs : s.Units.length < 1000000000000) (hl : l.length < 1000000000000) : A_impl_areOnMap b s l = some (en_impl_areOnMap (areB b s l)) := by
 have hi : A_xf_impl_areOnMap_1 b s l = some (en_xf_impl_areOnMap_1 (findI (fun u => !(gameB b s && onMapB s.Units u)) l, b, s)) := by
  apply e_xf_impl_areOnMap_1
  refine idx_loop (fun i => L_xf_impl_areOnMap_1_L2 b s l l.length i) l (fun u => !(gameB b s && onMapB s.Units u)) (fun i => some (en_xf_impl_areOnMap_1 (i, b, s))) ?_ (fun i x hx hi => ?_) _ rfl
  ·intro _ h; apply e_xf_impl_areOnMap_1_L2
   rw [← h]; simp [en_xf_impl_areOnMap_1]
  ·intro _ h; apply e_xf_impl_areOnMap_1_L2
   have hc : A_impl_areOnMap_1 b s x = some (en_impl_areOnMap_1 (!(gameB b s && onMapB s.Units x), b, s)) := by
    apply e_impl_areOnMap_1
    rw [cast_of inj_impl_onMap (c_impl_onMap _ _ _ hn hs)]
    rfl
   rw [if_pos (by simpa using hi), ixA_at sl_cI rfl hx, cast_of inj_impl_areOnMap_1 hc, wrap_id (by omega) (by omega)]
   exact h
 have hc : A_cf_impl_areOnMap_1 b s l = some (en_cf_impl_areOnMap_1 (l.any (fun u => !(gameB b s && onMapB s.Units u)), b, s)) := by
  apply e_cf_impl_areOnMap_1
  rw [cast_of inj_xf_impl_areOnMap_1 hi, findI_any]
  rfl
 apply e_impl_areOnMap
 unfold areB
 rw [cast_of inj_impl_fits (c_impl_fits _ _ hn hs)]
 cases hg : gameB b s with
 | false => rfl
 | true =>
  rw [hg] at hc
  rw [if_neg (by simp), cast_of inj_impl_increasing (c_impl_increasing _ hl)]
  cases risingB l with
  | false => rfl
  | true =>
   rw [if_neg (by simp), cast_of inj_cf_impl_areOnMap_1 hc]
   simp only [Bool.true_and]
   have e : l.any (fun u => !onMapB s.Units u) = !l.all (onMapB s.Units) := by rw [List.all_eq_not_any_not, Bool.not_not]
   rw [e]
   simp [en_impl_areOnMap]
theorem c_spec_gUnits (b : DBoard) (s : DState) (l : List Int) (hn : BoardN b) (hs : s.Units.length < 1000000000000) (hl : l.length < 1000000000000) : A_spec_gUnits b s l = some (en_spec_gUnits (areB b s l)) := by
 apply e_spec_gUnits
 unfold areB
 have hg : (boardB b && stateB b s) = gameB b s := rfl
 rw [cast_of inj_spec_sGood (c_spec_sGood _ _ hn hs), hg]
 cases gameB b s with
 | false => rfl
 | true =>
  rw [if_neg (by simp), wrap_id (n := (s.Units.length : Int) - 1) (by omega) (by omega), cast_of inj_spec_l1Rising (c_spec_l1Rising _ _ _ hl)]
  cases hr : risingB l with
  | false => rw [Bool.and_false, if_pos (by rfl)]; rfl
  | true =>
   cases hi : l.all (inB 0 ((s.Units.length : Int) - 1)) with
   | false =>
    rw [Bool.false_and, if_pos (by rfl)]
    have : l.all (onMapB s.Units) = false := by
     rw [List.all_eq_false] at hi ⊢
     obtain ⟨u, hu, h⟩ := hi
     refine ⟨u, hu, fun ho => h ?_⟩
     obtain ⟨x, hx, _⟩ := onMap_ex ho
     obtain ⟨k, e, _, hk⟩ := getI_some hx
     rw [inB_iff]
     omega
    rw [this]; rfl
   | true =>
    rw [Bool.true_and, if_neg (by simp)]
    rw [List.all_eq_true] at hi
    have := all_loop (fun k => L_spec_gUnits_L4 s l l.length k) l (onMapB s.Units) (some (en_spec_gUnits true)) (some (en_spec_gUnits false)) ?_ (fun k x hx hk => ?_)
    ·refine this _ ?_
     cases l.all (onMapB s.Units) <;> rfl
    ·intro _ h; apply e_spec_gUnits_L4
     rw [if_neg (by simp), ← h]; rfl
    ·intro _ h; apply e_spec_gUnits_L4
     have hin := hi x (mem_of_get hx)
     rw [inB_iff] at hin
     obtain ⟨y, hy⟩ := getI_ex (l := s.Units) hin.1 (by omega)
     rw [if_pos (by simpa using hk), ixA_at sl_cI rfl hx, ixA_get sl_cUnit _ _ hy, wrap_id (by omega) (by omega), ← h, onMap_spec hy]
     by_cases h0 : y.At < 0
     ·rw [if_pos (by simpa using h0), if_neg (by simp; omega)]; rfl
     ·rw [if_neg (by simpa using h0), if_pos (by simp; omega)]
def wayR (b : DBoard) (s : DState) (u n : Int) : List (List Int) := match getI s.Units u with
 | some x => backR b s x u n.toNat x.At []
 | none => []
theorem wayR_at {b : DBoard} {s : DState} {u n : Int} {x : DUnit} (hx : getI s.Units u = some x) : wayR b s u n = backR b s x u n.toNat x.At [] := by unfold wayR; rw [hx]
def cntR (b : DBoard) (s : DState) (u n : Int) : Int × Bool := if askR b s u n then ((wayR b s u n).length, true) else (0, false)
theorem c_impl_ways {b : DBoard} {s : DState} {u n : Int} (hn : BoardN b) (h : askR b s u n = true) : A_impl_retreatsOf b s u n = some (en_impl_retreatsOf (wayR b s u n)) := by
 obtain ⟨hg, ⟨x, hx, h0⟩, h1, h3⟩ := askR_ex h
 obtain ⟨q, rfl⟩ : ∃ q : Nat, n = q := ⟨n.toNat, by omega⟩
 obtain ⟨k, _, hk, _⟩ := getI_some hx
 rw [wayR_at hx]
 exact c_impl_retreatsOf (StateG.ofB hg hn) hx (mem_of_get hk) h0 q (by omega)
theorem c_spec_ways {b : DBoard} {s : DState} {u n : Int} (hn : BoardN b) (h : askR b s u n = true) : A_spec_gAll b s u n = some (en_spec_gAll (wayR b s u n)) := by
 obtain ⟨hg, ⟨x, hx, h0⟩, h1, h3⟩ := askR_ex h
 obtain ⟨q, rfl⟩ : ∃ q : Nat, n = q := ⟨n.toNat, by omega⟩
 obtain ⟨k, _, hk, _⟩ := getI_some hx
 rw [wayR_at hx]
 exact c_spec_gAll (StateG.ofB hg hn) hx (mem_of_get hk) h0 q (by omega)
section
variable (b : DBoard) (s : DState) (u n : Int) (hn : BoardN b) (hs : s.Units.length < 1000000000000)
include hn hs
theorem c_impl_CountRetreats : A_impl_CountRetreats b s u n = some (en_impl_CountRetreats (cntR b s u n)) := by
 apply e_impl_CountRetreats
 unfold cntR
 rw [cast_of inj_impl_isRetreat (c_impl_isRetreat _ _ _ _ hn hs)]
 cases h : askR b s u n with
 | false => rfl
 | true => rw [if_neg (by simp), cast_of inj_impl_retreatsOf (c_impl_ways hn h)]; rfl
end
theorem c_laws_pSameState (s : DState) (hs : s.Units.length < 1000000000000) : A_laws_pSameState s s = some (en_laws_pSameState true) := by
 apply e_laws_pSameState
 rw [if_neg (by simp), if_neg (by simp), if_neg (by simp)]
 refine any_loop (fun k => L_laws_pSameState_L4 s s s.Units.length k) s.Units (fun _ => false) (some (en_laws_pSameState false)) (some (en_laws_pSameState true)) ?_ (fun k x hx hi => ?_) _ (by simp)
 ·intro _ h; apply e_laws_pSameState_L4
  rw [← h]; simp [en_laws_pSameState]
 ·intro _ h; apply e_laws_pSameState_L4
  rw [if_pos (by simpa using hi), ixA_at sl_cUnit rfl hx, ixA_at sl_cUnit rfl hx, wrap_id (by omega) (by omega), if_neg (by simp)]
  simpa using h
theorem l_sc_crew (s : DState) (hs : s.Units.length ≤ 20) : ∀ (m k : Nat) (acc : List Int) (c : Dl1Cur) (n : Int), k + m = s.Units.length → acc.length ≤ k → Cu c n → n + 10 * (m + 1) ≤ Far - 100 →
  ∃ v, L_sc_crew_L3 acc c s s.Units s.Units.length k = some (en_sc_crew v) ∧ (v.1.length ≤ 30 ∧ Cu v.2 (n + 10 * (m + 1))) := by
 intro m
 induction m with
 | zero =>
  intro k acc c n hk ha hc hn
  refine okA (e_sc_crew_L3 _ _ _ _ _ _) ?_
  rw [if_neg (by simp; omega)]
  refine koA inj_sc_one (o_sc_one _ _ _ hc (by unfold Far at *; omega)) fun o ho => ?_
  refine OK.ite (fun _ => ?_) (fun _ => ?_)
  ·rw [apR_eq rt_cI rfl (xs := [(s.Units.length : Int)]) (Src.row (n := 1) ok_cI rfl rfl) rfl rfl (by simp; omega) (by simp; omega) rfl, give_at ok_cI rfl]
   exact OK.some ⟨(_, _), rfl, by simp; omega, ho.to⟩
  ·rw [give_at ok_cI rfl]
   exact OK.some ⟨(_, _), rfl, by dsimp only; omega, ho.to⟩
 | succ m ih =>
  intro k acc c n hk ha hc hn
  refine okA (e_sc_crew_L3 _ _ _ _ _ _) ?_
  have hlt : k < s.Units.length := by omega
  rw [if_pos (by simp; omega), ixA_at sl_cUnit rfl (List.getElem?_eq_getElem hlt), wrap_id (n := (k : Int) + 1) (by omega) (by omega)]
  have go : ∀ (acc : List Int) (c : Dl1Cur), acc.length ≤ k + 1 → Cu c (n + 2) → OK (L_sc_crew_L3 acc c s s.Units s.Units.length ((k : Int) + 1)) fun r => ∃ v, r = en_sc_crew v ∧ (v.1.length ≤ 30 ∧ Cu v.2 (n + 10 * ((m + 1 : Nat) + 1))) := by
   intro acc c ha hc
   obtain ⟨v, q1, q2, q3⟩ := ih (k + 1) acc c (n + 2) (by omega) ha hc (by unfold Far at *; omega)
   simp only [Int.natCast_add, Int.natCast_one] at q1
   exact ⟨_, q1, v, rfl, q2, q3.to⟩
  refine OK.ite (fun _ => ?_) (fun _ => go _ _ (by omega) hc.to)
  refine koA inj_sc_one (o_sc_one _ _ _ hc (by unfold Far at *; omega)) fun o ho => ?_
  refine OK.ite (fun _ => ?_) (fun _ => go _ _ (by omega) ho)
  rw [apR_eq rt_cI rfl (xs := [(k : Int)]) (Src.row (n := 1) ok_cI rfl rfl) rfl rfl (by simp; omega) (by simp; omega) rfl]
  exact go _ _ (by simp; omega) ho
theorem o_sc_crew (c : Dl1Cur) (s : DState) (hs : s.Units.length ≤ 20) (n : Int) (hc : Cu c n) (hn : n ≤ Far - 1000) : ∃ v, A_sc_crew c s = some (en_sc_crew v) ∧ (v.1.length ≤ 30 ∧ Cu v.2 (n + 300)) := by
 refine okA (e_sc_crew _ _) ?_
 obtain ⟨v, q1, q2, q3⟩ := l_sc_crew s hs s.Units.length 0 [] c n (by omega) (by simp) hc (by unfold Far at *; omega)
 exact ⟨_, q1, v, rfl, q2, q3.to⟩
theorem step_ne (h : DHex) {d : Int} (hd : d ∈ dl) : stepL h d 1 ≠ h := by
 unfold dl at hd
 simp only [List.mem_cons, List.not_mem_nil, or_false] at hd
 intro e
 have e1 := congrArg DHex.Q e
 have e2 := congrArg DHex.R e
 rcases hd with h | h | h | h | h | h <;> subst h <;> simp [stepL, nthI, dq, dr] at e1 e2 <;> omega
theorem next_ne (m : DMap) {i d : Int} (h0 : 0 ≤ i) (hd : d ∈ dl) : nextL m i d ≠ i := by
 intro e
 have h : 0 ≤ idxL m (stepL (hexL m i) d 1) := by show 0 ≤ nextL m i d; omega
 have := hexL_idx h
 have e2 : idxL m (stepL (hexL m i) d 1) = i := e
 rw [e2] at this
 exact step_ne (hexL m i) hd this.symm
def dirL (m : DMap) (i k : Int) : Int := (dl.find? fun d => nextL m i d == k).getD (-1)
def canB (b : DBoard) (s : DState) (x : DUnit) (i : Int) : Bool := match dl.find? (fun d => nextL b.Map x.At d == i) with
 | some d => decide (0 < stepC b x.Kind s.Weather x.At d) && roomB b s x.Side i
 | none => false
theorem canB_some {b : DBoard} {s : DState} {x : DUnit} {i : Int} (h : canB b s x i = true) : ∃ d ∈ dl, nextL b.Map x.At d = i ∧ costL b x.Kind i ≠ 0 ∧ roomB b s x.Side i = true := by
 unfold canB at h
 split at h
 ·rename_i d hd
  rw [Bool.and_eq_true, decide_eq_true_eq] at h
  have h1 := List.find?_some hd
  have h1 := beq_iff_eq.1 h1
  refine ⟨d, List.mem_of_find?_eq_some hd, h1, fun h0 => ?_, h.2⟩
  have h2 := h.1
  unfold stepC at h2
  rw [h1, if_pos (.inr h0)] at h2
  omega
 ·cases h
def advL (b : DBoard) (i : Int) : List Int → DState → Int → DState × Int
 | [], s, c => (s, c)
 | u :: l, s, c => match getI s.Units u with
  | some x => if canB b s x i = true then advL b i l ⟨s.Turn, s.Weather, s.Units.set u.toNat { x with At := i }⟩ (c + 1) else advL b i l s c
  | none => advL b i l s c
theorem adv_set {us : List DUnit} {k : Nat} {z : DUnit} {v : Int} (hv : v ≠ (k : Int)) : getI (us.set k z) v = getI us v := by
 unfold getI
 split
 ·rw [List.getElem?_set_ne (by omega)]
 ·rfl
theorem AllG.tail {b : DBoard} {s : DState} {u : Int} {l : List Int} (h : AllG b s (u :: l)) : AllG b s l := ⟨h.g, (rising_tail h.r).1, fun v hv => h.o v (by simp [hv])⟩
theorem AllG.adv {b : DBoard} {s : DState} {k : Nat} {i : Int} {l : List Int} (h : AllG b s ((k : Int) :: l)) (hn : BoardN b) {x : DUnit} (hx : s.Units[k]? = some x) (ha : 0 ≤ x.At) (h0 : 0 ≤ i) (h1 : i < b.Map.Width * b.Map.Height) (hc : canB b s x i = true) :
  AllG b ⟨s.Turn, s.Weather, s.Units.set k { x with At := i }⟩ l := by
 obtain ⟨d, _, _, q1, q2⟩ := canB_some hc
 have hr := rising_tail h.r
 refine ⟨game_move h.g hn hx ha h0 h1 q1 q2, hr.1, fun v hv => ?_⟩
 have := hr.2 v hv
 have ho := h.o v (by simp [hv])
 unfold onMapB at ho ⊢
 rw [adv_set (by omega)]
 exact ho
theorem advL_len {b : DBoard} {i : Int} : ∀ (l : List Int) (s : DState) (c : Int), (advL b i l s c).1.Units.length = s.Units.length
 | [], _, _ => rfl
 | u :: l, s, c => by
  unfold advL
  split
  ·split
   ·rw [advL_len l]; simp
   ·exact advL_len l _ _
  ·exact advL_len l _ _
theorem advL_keep {b : DBoard} {i : Int} : ∀ (l : List Int) (s : DState) (c v : Int), v ∉ l → getI (advL b i l s c).1.Units v = getI s.Units v
 | [], _, _, _, _ => rfl
 | u :: l, s, c, v, hv => by
  simp only [List.mem_cons, not_or] at hv
  unfold advL
  split
  ·rename_i x hx
   obtain ⟨k, e, hk, _⟩ := getI_some hx
   subst e
   split
   ·rw [advL_keep l _ _ v hv.2]
    exact adv_set hv.1
   ·exact advL_keep l _ _ v hv.2
  ·exact advL_keep l _ _ v hv.2
theorem advL_game {b : DBoard} {i : Int} (hn : BoardN b) (h0 : 0 ≤ i) (h1 : i < b.Map.Width * b.Map.Height) : ∀ (l : List Int) (s : DState) (c : Int), AllG b s l → gameB b (advL b i l s c).1 = true
 | [], s, c, h => h.g
 | u :: l, s, c, h => by
  obtain ⟨x, hx, ha⟩ := onMap_ex (h.o u (by simp))
  obtain ⟨k, e, hk, _⟩ := getI_some hx
  subst e
  unfold advL
  rw [hx]
  dsimp only
  split
  ·rename_i hc
   exact advL_game hn h0 h1 l _ _ (h.adv hn hk ha h0 h1 hc)
  ·exact advL_game hn h0 h1 l _ _ h.tail
def movedP (i : Int) (s t : DState) (u : Int) : Bool := match getI t.Units u, getI s.Units u with
 | some y, some x => y.At == i && x.At != i
 | _, _ => false
theorem advL_count {b : DBoard} {i : Int} (hn : BoardN b) (h0 : 0 ≤ i) (h1 : i < b.Map.Width * b.Map.Height) : ∀ (l : List Int) (s : DState) (c : Int), AllG b s l → (advL b i l s c).2 = c + ((l.filter (movedP i s (advL b i l s c).1)).length : Int)
 | [], s, c, h => by simp [advL]
 | u :: l, s, c, h => by
  obtain ⟨x, hx, ha⟩ := onMap_ex (h.o u (by simp))
  obtain ⟨k, e, hk, hkl⟩ := getI_some hx
  subst e
  have hnot : (k : Int) ∉ l := fun hm => by have := (rising_tail h.r).2 _ hm; omega
  unfold advL
  rw [hx]
  dsimp only
  by_cases hc : canB b s x i = true
  ·rw [if_pos hc]
   have ih := advL_count hn h0 h1 l ⟨s.Turn, s.Weather, s.Units.set k { x with At := i }⟩ (c + 1) (h.adv hn hk ha h0 h1 hc)
   have hkp := advL_keep (b := b) (i := i) l ⟨s.Turn, s.Weather, s.Units.set k { x with At := i }⟩ (c + 1) k hnot
   show (advL b i l ⟨s.Turn, s.Weather, s.Units.set k { x with At := i }⟩ (c + 1)).2 = _
   rw [ih]
   obtain ⟨d, hd, e, _⟩ := canB_some hc
   have hne := next_ne b.Map ha hd
   have hm : movedP i s (advL b i l ⟨s.Turn, s.Weather, s.Units.set k { x with At := i }⟩ (c + 1)).1 k = true := by
    unfold movedP
    rw [hkp, hx]
    have : getI (s.Units.set k { x with At := i }) (k : Int) = some { x with At := i } := by rw [getI_nat, List.getElem?_set_self hkl]
    rw [this]
    simp
    omega
   have hf : l.filter (movedP i ⟨s.Turn, s.Weather, s.Units.set k { x with At := i }⟩ (advL b i l ⟨s.Turn, s.Weather, s.Units.set k { x with At := i }⟩ (c + 1)).1) = l.filter (movedP i s (advL b i l ⟨s.Turn, s.Weather, s.Units.set k { x with At := i }⟩ (c + 1)).1) := by
    refine List.filter_congr fun v hv => ?_
    unfold movedP
    rw [show getI (⟨s.Turn, s.Weather, s.Units.set k { x with At := i }⟩ : DState).Units v = getI s.Units v from adv_set (by intro e; rw [e] at hv; exact hnot hv)]
   show _ = c + (((((k : Int) :: l).filter (movedP i s (advL b i l ⟨s.Turn, s.Weather, s.Units.set k { x with At := i }⟩ (c + 1)).1)).length : Nat) : Int)
   rw [List.filter_cons, hm, if_pos rfl, List.length_cons, hf]
   omega
  ·rw [if_neg hc]
   rw [advL_count hn h0 h1 l s c h.tail]
   have hkp := advL_keep (b := b) (i := i) l s c k hnot
   have hm : movedP i s (advL b i l s c).1 k = false := by
    unfold movedP
    rw [hkp, hx]
    simp
   show _ = c + (((((k : Int) :: l).filter (movedP i s (advL b i l s c).1)).length : Nat) : Int)
   rw [List.filter_cons, hm, if_neg (by simp)]
theorem moveG_of {b : DBoard} {s : DState} (g : StateG b s) {x : DUnit} (hx : x ∈ s.Units) : MoveG b x.Kind s.Weather := by
 have hk := unit_kind (g.u x hx)
 have h := g.ok
 unfold stateB at h
 simp only [Bool.and_eq_true, inB_iff] at h
 exact ⟨g.bg, g.n, hk.1, hk.2, h.2.1.1, h.2.1.2⟩
theorem unit_sm {b : DBoard} {s : DState} (g : StateG b s) {x : DUnit} (hx : x ∈ s.Units) : sm x.At := g.bg.atsm (g.u x hx)
theorem c_impl_directionOn (m : DMap) (i k : Int) (hm : MapB m) (hi : sm i) : A_impl_directionOn m i k = some (en_impl_directionOn (dirL m i k)) := by
 apply e_impl_directionOn
 unfold dirL
 refine find_loop (fun d => L_impl_directionOn_L2 m i k d) dl (fun d => nextL m i d == k) (fun o => some (en_impl_directionOn (o.getD (-1)))) ?_ (fun d x hx hd => ?_) _ rfl
 ·intro _ h; apply e_impl_directionOn_L2
  rw [if_neg (by simp [dl]), ← h]; rfl
 ·intro _ h; apply e_impl_directionOn_L2
  obtain ⟨rfl, h6⟩ := dl_get hx
  rw [if_pos (by simp; omega), cast_of inj_impl_nextTo (c_impl_nextTo _ _ _ hm hi (by omega) (by omega)), wrap_id (by omega) (by omega), ← h]
  rfl
theorem c_impl_canAdvance (b : DBoard) (s : DState) (x : DUnit) (i : Int) (g : StateG b s) (hx : x ∈ s.Units) (h0 : 0 ≤ i) : A_impl_canAdvance b s x i = some (en_impl_canAdvance (canB b s x i)) := by
 have hsd := unit_side (g.u x hx)
 have hsm := unit_sm g hx
 apply e_impl_canAdvance
 unfold canB
 rw [cast_of inj_impl_directionOn (c_impl_directionOn _ _ _ g.bg.s.b hsm)]
 unfold dirL
 cases hf : dl.find? (fun d => nextL b.Map x.At d == i) with
 | none => rfl
 | some d =>
  have hd := List.mem_of_find?_eq_some hf
  unfold dl at hd
  simp only [List.mem_cons, List.not_mem_nil, or_false] at hd
  rw [Option.getD_some, if_pos (by simp; omega), cast_of inj_impl_stepCost (c_impl_stepCost _ _ _ _ _ (moveG_of g hx) hsm (by omega) (by omega))]
  by_cases h : 0 < stepC b x.Kind s.Weather x.At d
  ·rw [if_pos (by simpa using h), cast_of inj_impl_stackRoom (c_impl_stackRoom _ _ _ _ g hsd h0), room_of g hsd h0]
   simp [h, en_impl_canAdvance]
  ·rw [if_neg (by simpa using h)]
   simp [h, en_impl_canAdvance]
theorem c_spec_gCan (b : DBoard) (s : DState) (u i : Int) (g : StateG b s) {x : DUnit} (hu : getI s.Units u = some x) (hx : x ∈ s.Units) : A_spec_gCan b s u i = some (en_spec_gCan (canB b s x i)) := by
 have hsd := unit_side (g.u x hx)
 have hl := g.len
 have hsm := unit_sm g hx
 apply e_spec_gCan
 unfold canB
 rw [ixA_get sl_cUnit _ _ hu]
 refine find_loop (fun d => L_spec_gCan_L3 b s x i d) dl (fun d => nextL b.Map x.At d == i) (fun o => some (en_spec_gCan (match o with
  | some d => decide (0 < stepC b x.Kind s.Weather x.At d) && roomB b s x.Side i
  | none => false))) ?_ (fun d y hy hd => ?_) _ rfl
 ·intro _ h; apply e_spec_gCan_L3
  rw [if_neg (by simp [dl]), ← h]; rfl
 ·intro _ h; apply e_spec_gCan_L3
  obtain ⟨rfl, h6⟩ := dl_get hy
  rw [if_pos (by simp; omega), cast_of inj_spec_mNext (c_spec_mNext _ _ _ g.bg.s.b hsm (by omega) (by omega)), wrap_id (by omega) (by omega), ← h]
  cases nextL b.Map x.At d == i with
  | false => rfl
  | true =>
   rw [if_pos rfl, if_pos rfl, cast_of inj_spec_cStep (c_spec_cStep _ _ _ _ _ (moveG_of g hx) hsm (by omega) (by omega))]
   by_cases h : 0 < stepC b x.Kind s.Weather x.At d
   ·rw [if_pos (by simpa using h), cast_of inj_spec_gRoom (c_spec_gRoom _ _ _ _ (by omega) hsd)]
    simp [h, en_spec_gCan]
   ·rw [if_neg (by simpa using h)]
    simp [h, en_spec_gCan]
theorem l_impl_advanceUnits (b : DBoard) (hn : BoardN b) (i : Int) (h0 : 0 ≤ i) (h1 : i < b.Map.Width * b.Map.Height) (a0 a1 : Int) (l : List Int) (hl : l.length ≤ 100000) : ∀ (r : List Int) (k : Nat) (s : DState) (c : Int), l.drop k = r → AllG b s r → 0 ≤ c → c ≤ k →
  L_impl_advanceUnits_L3 s.Units b a0 a1 s.Turn s.Weather 0 s.Units.length s.Units.length i c l l.length k = some (en_impl_advanceUnits (advL b i r s c)) := by
 intro r
 induction r with
 | nil =>
  intro k s c hd _ _ _
  have : l.length ≤ k := by simpa using hd
  apply e_impl_advanceUnits_L3
  rw [if_neg (by simp; omega)]
  rw [cast_of inj_si (a := (s, c)) (gvTup (gvVs_cons (gvState' rfl rfl) (gvVs_cons rfl rfl)))]
  rfl
 | cons u r ih =>
  intro k s c hd hg hc0 hck
  have hk : k < l.length := by
   have := congrArg List.length hd
   simp at this
   omega
  have hx : l[k]? = some u := by
   have := congrArg (fun q => q[0]?) hd
   simpa using this
  have hd2 : l.drop (k + 1) = r := by
   have := congrArg List.tail hd
   simpa using this
  obtain ⟨x, hux, hat⟩ := onMap_ex (hg.o u (by simp))
  obtain ⟨j, e, hj, hjl⟩ := getI_some hux
  have g := StateG.ofB hg.g hn
  have hxm := mem_of_get hj
  subst e
  apply e_impl_advanceUnits_L3
  rw [if_pos (by simp; omega), ixA_at sl_cI rfl hx, oxA_at rt_cUnit rfl hjl]
  refine (ld_at (E := tUnit) rfl rfl ok_cUnit (by intro h; cases h) rfl rfl hj _).trans ?_
  rw [cast_of inj_state (a := s) (gvState' rfl rfl), cast_of inj_impl_canAdvance (c_impl_canAdvance _ _ _ _ g hxm h0), wrap_id (n := (k : Int) + 1) (by omega) (by omega), wrap_id (n := c + 1) (by omega) (by omega)]
  unfold advL
  rw [hux]
  dsimp only
  cases hc : canB b s x i with
  | false =>
   rw [if_neg (by simp), if_neg (by simp)]
   have := ih (k + 1) s c hd2 hg.tail hc0 (by omega)
   simp only [Int.natCast_add, Int.natCast_one] at this
   exact this
  | true =>
   rw [if_pos rfl, if_pos rfl, oxA_at rt_cUnit rfl hjl, stF (f := 2) ok_cUnit rfl rfl hj rfl (by omega) rfl (y' := { x with At := i }) rfl]
   have := ih (k + 1) ⟨s.Turn, s.Weather, s.Units.set j { x with At := i }⟩ (c + 1) hd2 (hg.adv hn hj hat h0 h1 hc) (by omega) (by omega)
   simp only [Int.natCast_add, Int.natCast_one, List.length_set] at this
   exact this
theorem l_spec_gAdvance (b : DBoard) (hn : BoardN b) (i : Int) (h0 : 0 ≤ i) (h1 : i < b.Map.Width * b.Map.Height) (a0 a1 : Int) (l : List Int) (hl : l.length ≤ 100000) : ∀ (r : List Int) (k : Nat) (s : DState) (c : Int), l.drop k = r → AllG b s r → 0 ≤ c → c ≤ k →
  L_spec_gAdvance_L4 s.Units b s.Turn s.Weather 0 s.Units.length s.Units.length a0 a1 i c l l.length k = some (en_spec_gAdvance (advL b i r s c)) := by
 intro r
 induction r with
 | nil =>
  intro k s c hd _ _ _
  have : l.length ≤ k := by simpa using hd
  apply e_spec_gAdvance_L4
  rw [if_neg (by simp; omega)]
  rw [cast_of inj_si (a := (s, c)) (gvTup (gvVs_cons (gvState' rfl rfl) (gvVs_cons rfl rfl)))]
  rfl
 | cons u r ih =>
  intro k s c hd hg hc0 hck
  have hk : k < l.length := by
   have := congrArg List.length hd
   simp at this
   omega
  have hx : l[k]? = some u := by
   have := congrArg (fun q => q[0]?) hd
   simpa using this
  have hd2 : l.drop (k + 1) = r := by
   have := congrArg List.tail hd
   simpa using this
  obtain ⟨x, hux, hat⟩ := onMap_ex (hg.o u (by simp))
  obtain ⟨j, e, hj, hjl⟩ := getI_some hux
  have g := StateG.ofB hg.g hn
  have hxm := mem_of_get hj
  subst e
  apply e_spec_gAdvance_L4
  rw [if_pos (by simp; omega), ixA_at sl_cI rfl hx, oxA_at rt_cUnit rfl hjl]
  refine (ld1_at (v := fun a : Int => I a) rfl rfl rfl rfl (x := I x.At) ((flat_get ok_cUnit.len hj (f := 2) (by omega)).trans rfl) injI rfl _).trans ?_
  rw [if_pos (by simpa using hat), cast_of inj_state (a := s) (gvState' rfl rfl), cast_of inj_spec_gCan (c_spec_gCan _ _ _ _ g hux hxm), wrap_id (n := (k : Int) + 1) (by omega) (by omega), wrap_id (n := c + 1) (by omega) (by omega)]
  unfold advL
  rw [hux]
  dsimp only
  cases hc : canB b s x i with
  | false =>
   rw [if_neg (by simp), if_neg (by simp)]
   have := ih (k + 1) s c hd2 hg.tail hc0 (by omega)
   simp only [Int.natCast_add, Int.natCast_one] at this
   exact this
  | true =>
   rw [if_pos rfl, if_pos rfl, oxA_at rt_cUnit rfl hjl, stF (f := 2) ok_cUnit rfl rfl hj rfl (by omega) rfl (y' := { x with At := i }) rfl]
   have := ih (k + 1) ⟨s.Turn, s.Weather, s.Units.set j { x with At := i }⟩ (c + 1) hd2 (hg.adv hn hj hat h0 h1 hc) (by omega) (by omega)
   simp only [Int.natCast_add, Int.natCast_one, List.length_set] at this
   exact this
theorem c_impl_advanceUnits (b : DBoard) (s : DState) (l : List Int) (i : Int) (hn : BoardN b) (h0 : 0 ≤ i) (h1 : i < b.Map.Width * b.Map.Height) (hl : l.length ≤ 100000) (hg : AllG b s l) : A_impl_advanceUnits b s l i = some (en_impl_advanceUnits (advL b i l s 0)) := by
 have hs := (StateG.ofB hg.g hn).len
 apply e_impl_advanceUnits
 rw [cast_of inj_impl_cloneState (c_impl_cloneState _ (by omega))]
 exact l_impl_advanceUnits b hn i h0 h1 0 0 l hl l 0 s 0 rfl hg (by omega) (by omega)
theorem c_spec_gAdvance (b : DBoard) (s : DState) (l : List Int) (i : Int) (hn : BoardN b) (h0 : 0 ≤ i) (h1 : i < b.Map.Width * b.Map.Height) (hl : l.length ≤ 100000) (hg : AllG b s l) : A_spec_gAdvance b s l i = some (en_spec_gAdvance (advL b i l s 0)) := by
 have hs := (StateG.ofB hg.g hn).len
 apply e_spec_gAdvance
 rw [cast_of inj_spec_fDo (c_spec_fDo _ (by omega))]
 exact l_spec_gAdvance b hn i h0 h1 0 0 l hl l 0 s 0 rfl hg (by omega) (by omega)
def stepsR (b : DBoard) (s : DState) (x : DUnit) (u : Int) : List Int := colI (fun _ d => backB b s x u (nextL b.Map x.At d)) (fun k _ => (k : Int)) dl
theorem l_impl_RetreatSteps (b : DBoard) (s : DState) (u : Int) (g : StateG b s) {x : DUnit} (hu : getI s.Units u = some x) (hx : x ∈ s.Units) : L_impl_RetreatSteps_L5 [] b s u 0 = some (en_impl_RetreatSteps (stepsR b s x u, true)) := by
 have hsm := unit_sm g hx
 unfold stepsR
 refine col_loop (fun k acc => L_impl_RetreatSteps_L5 acc b s u k) dl (fun _ d => backB b s x u (nextL b.Map x.At d)) (fun k _ => (k : Int)) (fun acc => some (en_impl_RetreatSteps (acc, true))) ?_ (fun k y acc hy hk ha => ?_) _ rfl
 ·intro acc ha _ h; apply e_impl_RetreatSteps_L5
  rw [if_neg (by simp [dl]), cast_of inj_lb (a := (acc, true)) (gvTup (gvVs_cons (gvOwn ok_cI rfl) (gvVs_cons rfl rfl))), ← h]
  rfl
 ·intro _ h; apply e_impl_RetreatSteps_L5
  obtain ⟨rfl, h6⟩ := dl_get hy
  rw [if_pos (by simp; omega), ixA_get sl_cUnit _ _ hu, cast_of inj_impl_nextTo (c_impl_nextTo _ _ _ g.bg.s.b hsm (by omega) (by omega)), cast_of inj_impl_canFallBack (c_impl_canFallBack _ _ _ _ g hu hx (nextL_area g.bg.w0 g.bg.h0 _ _)), wrap_id (by omega) (by omega), apR_eq rt_cI rfl (xs := [(k : Int)]) (Src.row (n := 1) ok_cI rfl rfl) rfl rfl (by simp; omega) (by simp; omega) rfl]
  exact h
theorem l_spec_RetreatSteps (b : DBoard) (s : DState) (u : Int) (g : StateG b s) {x : DUnit} (hu : getI s.Units u = some x) (hx : x ∈ s.Units) : L_spec_RetreatSteps_L5 [] b s u 0 = some (en_spec_RetreatSteps (stepsR b s x u, true)) := by
 have hsm := unit_sm g hx
 unfold stepsR
 refine col_loop (fun k acc => L_spec_RetreatSteps_L5 acc b s u k) dl (fun _ d => backB b s x u (nextL b.Map x.At d)) (fun k _ => (k : Int)) (fun acc => some (en_spec_RetreatSteps (acc, true))) ?_ (fun k y acc hy hk ha => ?_) _ rfl
 ·intro acc ha _ h; apply e_spec_RetreatSteps_L5
  rw [if_neg (by simp [dl]), cast_of inj_lb (a := (acc, true)) (gvTup (gvVs_cons (gvOwn ok_cI rfl) (gvVs_cons rfl rfl))), ← h]
  rfl
 ·intro _ h; apply e_spec_RetreatSteps_L5
  obtain ⟨rfl, h6⟩ := dl_get hy
  rw [if_pos (by simp; omega), ixA_get sl_cUnit _ _ hu, cast_of inj_spec_gBack (c_spec_gBack _ _ _ _ _ g hu hx hsm (by omega) (by omega)), wrap_id (by omega) (by omega), apR_eq rt_cI rfl (xs := [(k : Int)]) (Src.row (n := 1) ok_cI rfl rfl) rfl rfl (by simp; omega) (by simp; omega) rfl]
  exact h
def advR (b : DBoard) (s : DState) (l : List Int) (i : Int) : DState × Int × Bool := if areB b s l && inB 0 (b.Map.Width * b.Map.Height - 1) i then ((advL b i l s 0).1, (advL b i l s 0).2, true) else (⟨0, 0, []⟩, 0, false)
def canR (b : DBoard) (s : DState) (u i : Int) : Bool × Bool := if (gameB b s && onMapB s.Units u) && inB 0 (b.Map.Width * b.Map.Height - 1) i then (canB b s ((getI s.Units u).getD zU) i, true) else (false, false)
def trapR (b : DBoard) (s : DState) (u : Int) : Bool × Bool := if gameB b s && onMapB s.Units u then (((wayR b s u 1).length : Int) == 0, true) else (false, false)
def stepR' (b : DBoard) (s : DState) (u : Int) : List Int × Bool := if gameB b s && onMapB s.Units u then (stepsR b s ((getI s.Units u).getD zU) u, true) else ([], false)
theorem askR_one (b : DBoard) (s : DState) (u : Int) : askR b s u 1 = (gameB b s && onMapB s.Units u) := by
 unfold askR
 rw [show inB 1 3 1 = true from rfl, Bool.and_true]
theorem askU {b : DBoard} {s : DState} {u : Int} (h : (gameB b s && onMapB s.Units u) = true) : gameB b s = true ∧ ∃ x, getI s.Units u = some x ∧ 0 ≤ x.At ∧ x ∈ s.Units := by
 rw [Bool.and_eq_true] at h
 obtain ⟨x, hx, h0⟩ := onMap_ex h.2
 obtain ⟨k, _, hk, _⟩ := getI_some hx
 exact ⟨h.1, x, hx, h0, mem_of_get hk⟩
section
variable (b : DBoard) (s : DState) (hn : BoardN b) (hs : s.Units.length < 1000000000000)
include hn hs
theorem c_impl_AdvanceUnits (l : List Int) (i : Int) (hl : l.length ≤ 100000) : A_impl_AdvanceUnits b s l i = some (en_impl_AdvanceUnits (advR b s l i)) := by
 apply e_impl_AdvanceUnits
 unfold advR
 rw [cast_of inj_impl_areOnMap (c_impl_areOnMap _ _ _ hn hs (by omega))]
 cases h : areB b s l with
 | false => rfl
 | true =>
  have hg := areB_all h
  have g := StateG.ofB hg.g hn
  have har := g.bg.area
  have hmt := g.n.t
  rw [if_neg (by simp), cast_of inj_impl_sizeOf (c_impl_sizeOf _), cast_of inj_impl_isIndex (c_impl_isIndex _ _ (by omega) (by omega)), har]
  cases hi : inB 0 (b.Map.Width * b.Map.Height - 1) i with
  | false => rfl
  | true =>
   have hi2 := hi
   rw [inB_iff] at hi2
   rw [if_neg (by simp), cast_of inj_impl_advanceUnits (c_impl_advanceUnits _ _ _ _ hn hi2.1 (by omega) hl hg)]
   rfl
theorem c_spec_AdvanceUnits (l : List Int) (i : Int) (hl : l.length ≤ 100000) : A_spec_AdvanceUnits b s l i = some (en_spec_AdvanceUnits (advR b s l i)) := by
 apply e_spec_AdvanceUnits
 unfold advR
 rw [cast_of inj_spec_gUnits (c_spec_gUnits _ _ _ hn hs (by omega))]
 cases h : areB b s l with
 | false => rfl
 | true =>
  have hg := areB_all h
  have g := StateG.ofB hg.g hn
  have har := g.bg.area
  have hmt := g.n.t
  rw [if_neg (by simp), cast_of inj_spec_mSize (c_spec_mSize _), kk_spec_l1In, wrap_id (n := b.Map.Width * b.Map.Height) (by omega) (by omega), wrap_id (n := b.Map.Width * b.Map.Height - 1) (by omega) (by omega)]
  cases hi : inB 0 (b.Map.Width * b.Map.Height - 1) i with
  | false => rfl
  | true =>
   have hi2 := hi
   rw [inB_iff] at hi2
   rw [if_neg (by simp), cast_of inj_spec_gAdvance (c_spec_gAdvance _ _ _ _ hn hi2.1 (by omega) hl hg)]
   rfl
theorem c_impl_CanAdvance (u i : Int) : A_impl_CanAdvance b s u i = some (en_impl_CanAdvance (canR b s u i)) := by
 apply e_impl_CanAdvance
 unfold canR
 rw [cast_of inj_impl_onMap (c_impl_onMap _ _ _ hn hs)]
 cases h : gameB b s && onMapB s.Units u with
 | false => rfl
 | true =>
  obtain ⟨hg, x, hx, h0, hxm⟩ := askU h
  have g := StateG.ofB hg hn
  have har := g.bg.area
  have hmt := g.n.t
  rw [if_neg (by simp), cast_of inj_impl_sizeOf (c_impl_sizeOf _), cast_of inj_impl_isIndex (c_impl_isIndex _ _ (by omega) (by omega)), har]
  cases hi : inB 0 (b.Map.Width * b.Map.Height - 1) i with
  | false => rfl
  | true =>
   have hi2 := hi
   rw [inB_iff] at hi2
   rw [if_neg (by simp), ixA_get sl_cUnit _ _ hx, cast_of inj_impl_canAdvance (c_impl_canAdvance _ _ _ _ g hxm hi2.1), hx]
   rfl
theorem c_spec_CanAdvance (u i : Int) : A_spec_CanAdvance b s u i = some (en_spec_CanAdvance (canR b s u i)) := by
 apply e_spec_CanAdvance
 unfold canR
 rw [cast_of inj_spec_fOn (c_spec_fOn _ _ _ hn hs)]
 cases h : gameB b s && onMapB s.Units u with
 | false => rfl
 | true =>
  obtain ⟨hg, x, hx, h0, hxm⟩ := askU h
  have g := StateG.ofB hg hn
  have har := g.bg.area
  have hmt := g.n.t
  rw [if_neg (by simp), cast_of inj_spec_mSize (c_spec_mSize _), kk_spec_l1In, wrap_id (n := b.Map.Width * b.Map.Height) (by omega) (by omega), wrap_id (n := b.Map.Width * b.Map.Height - 1) (by omega) (by omega)]
  cases hi : inB 0 (b.Map.Width * b.Map.Height - 1) i with
  | false => rfl
  | true =>
   rw [if_neg (by simp), cast_of inj_spec_gCan (c_spec_gCan _ _ _ _ g hx hxm), hx]
   rfl
theorem c_impl_IsTrapped (u : Int) : A_impl_IsTrapped b s u = some (en_impl_IsTrapped (trapR b s u)) := by
 apply e_impl_IsTrapped
 unfold trapR
 rw [cast_of inj_impl_onMap (c_impl_onMap _ _ _ hn hs)]
 cases h : gameB b s && onMapB s.Units u with
 | false => rfl
 | true =>
  rw [if_neg (by simp), cast_of inj_impl_retreatsOf (c_impl_ways hn (by rw [askR_one]; exact h))]
  rfl
theorem c_spec_IsTrapped (u : Int) : A_spec_IsTrapped b s u = some (en_spec_IsTrapped (trapR b s u)) := by
 apply e_spec_IsTrapped
 unfold trapR
 rw [cast_of inj_spec_fOn (c_spec_fOn _ _ _ hn hs)]
 cases h : gameB b s && onMapB s.Units u with
 | false => rfl
 | true =>
  rw [if_neg (by simp), cast_of inj_spec_gAll (c_spec_ways hn (by rw [askR_one]; exact h))]
  rfl
theorem c_impl_RetreatSteps (u : Int) : A_impl_RetreatSteps b s u = some (en_impl_RetreatSteps (stepR' b s u)) := by
 apply e_impl_RetreatSteps
 unfold stepR'
 rw [cast_of inj_impl_onMap (c_impl_onMap _ _ _ hn hs)]
 cases h : gameB b s && onMapB s.Units u with
 | false => rfl
 | true =>
  obtain ⟨hg, x, hx, h0, hxm⟩ := askU h
  rw [if_neg (by simp), l_impl_RetreatSteps b s u (StateG.ofB hg hn) hx hxm, hx]
  rfl
theorem c_spec_RetreatSteps (u : Int) : A_spec_RetreatSteps b s u = some (en_spec_RetreatSteps (stepR' b s u)) := by
 apply e_spec_RetreatSteps
 unfold stepR'
 rw [cast_of inj_spec_fOn (c_spec_fOn _ _ _ hn hs)]
 cases h : gameB b s && onMapB s.Units u with
 | false => rfl
 | true =>
  obtain ⟨hg, x, hx, h0, hxm⟩ := askU h
  rw [if_neg (by simp), l_spec_RetreatSteps b s u (StateG.ofB hg hn) hx hxm, hx]
  rfl
end
theorem o_spec_DrawAdvanceUnits (x : KSl) (h : Arg x) : ∃ v, A_spec_DrawAdvanceUnits x = some (en_spec_DrawAdvanceUnits v) ∧ (BoardN v.1 ∧ v.2.1.Units.length ≤ 20 ∧ v.2.2.1.length ≤ 30) := by
 refine okA (e_spec_DrawAdvanceUnits _) ?_
 refine koA inj_sc_beaten (o_sc_beaten _ 0 h.cu (by unfold Far; omega)) fun r hr => ?_
 refine koA inj_sc_crew (o_sc_crew _ _ hr.2.1 _ hr.2.2 (by unfold Far; omega)) fun w hw => ?_
 refine koA inj_sc_place (o_sc_place _ _ _ hw.2 (by unfold Far; omega)) fun q hq => ?_
 exact OK.some ⟨(_, _, _, _), rfl, hr.1, hr.2.1, hw.1⟩
theorem o_spec_DrawCanAdvance (x : KSl) (h : Arg x) : ∃ v, A_spec_DrawCanAdvance x = some (en_spec_DrawCanAdvance v) ∧ (BoardN v.1 ∧ v.2.1.Units.length ≤ 20) := by
 refine okA (e_spec_DrawCanAdvance _) ?_
 refine koA inj_sc_beaten (o_sc_beaten _ 0 h.cu (by unfold Far; omega)) fun r hr => ?_
 obtain ⟨⟨b, s, u⟩, c1⟩ := r
 obtain ⟨hn, hu, hc⟩ := hr
 dsimp only at hn hu hc ⊢
 have last : ∀ (c : Dl1Cur) (n : Int), n ≤ 100000 → Cu c n → OK (cast en_sc_place (A_sc_place c b.Map) fun (v : Int × Dl1Cur) => some (AV.tup [AV.agg (cBoard b), AV.agg (cState s), I u, I v.fst], [])) fun r => ∃ v, r = en_spec_DrawCanAdvance v ∧ (BoardN v.1 ∧ v.2.1.Units.length ≤ 20) := by
  intro c n hn2 hc
  refine koA inj_sc_place (o_sc_place _ _ _ hc (by unfold Far; omega)) fun q hq => ?_
  exact OK.some ⟨(_, _, _, _), rfl, hn, hu⟩
 rw [cast_of inj_spec_fOn (c_spec_fOn _ _ _ hn (by omega))]
 refine OK.ite (fun ho => ?_) (fun _ => last _ _ (by omega) hc)
 refine koA inj_sc_one (o_sc_one _ _ _ hc (by unfold Far; omega)) fun o h1 => ?_
 refine OK.ite (fun _ => ?_) (fun _ => last _ _ (by omega) h1)
 obtain ⟨hg, y, hy, h0, hym⟩ := askU ho
 have g := StateG.ofB hg hn
 rw [ixA_get sl_cUnit _ _ hy]
 refine koA inj_sc_pick (o_sc_pick _ _ _ h1 (by unfold Far; omega)) fun p hp => ?_
 rw [cast_of inj_spec_mNext (c_spec_mNext _ _ _ g.bg.s.b (unit_sm g hym) hp.1 (by omega))]
 refine OK.ite (fun _ => OK.some ⟨(_, _, _, _), rfl, hn, hu⟩) (fun _ => last _ _ (by omega) hp.2.2)
theorem o_spec_DrawIsTrapped (x : KSl) (h : Arg x) : ∃ v, A_spec_DrawIsTrapped x = some (en_spec_DrawIsTrapped v) ∧ (BoardN v.1 ∧ v.2.1.Units.length ≤ 20) := by
 refine okA (e_spec_DrawIsTrapped _) ?_
 have hd : ∃ v, A_spec_DrawRetreatSteps x = some (en_spec_DrawRetreatSteps v) ∧ (BoardN v.1 ∧ v.2.1.Units.length ≤ 20) := by
  refine okA (e_spec_DrawRetreatSteps _) ?_
  refine koA inj_sc_beaten (o_sc_beaten _ 0 h.cu (by unfold Far; omega)) fun r hr => ?_
  exact OK.some ⟨(_, _, _), rfl, hr.1, hr.2.1⟩
 refine koA inj_spec_DrawRetreatSteps hd fun v hv => ?_
 exact OK.some ⟨(_, _, _), rfl, hv.1, hv.2⟩
theorem steps_len (b : DBoard) (s : DState) (u : Int) : (stepR' b s u).1.length ≤ 6 := by
 unfold stepR'
 split
 ·exact colI_len _ _ _
 ·simp
theorem trap_cnt (b : DBoard) (s : DState) (u : Int) : (cntR b s u 1).2 = (trapR b s u).2 ∧ ((trapR b s u).2 = true → (trapR b s u).1 = ((cntR b s u 1).1 == 0)) := by
 unfold cntR trapR
 rw [askR_one]
 cases gameB b s && onMapB s.Units u with
 | false => exact ⟨rfl, fun h => by cases h⟩
 | true => exact ⟨rfl, fun _ => rfl⟩
theorem law_laws_FnAdvances (code more : KSl) (hc : Arg code) (hm : Arg more) : A_laws_FnAdvances code more = some (B true, []) := by
 have fin : OK (cast en_spec_DrawCanAdvance (A_spec_DrawCanAdvance more) fun (v6 : DBoard × DState × Int × Int) => cast en_impl_CanAdvance (A_impl_CanAdvance v6.fst v6.snd.fst v6.snd.snd.fst v6.snd.snd.snd) fun (v7 : Bool × Bool) => cast en_spec_CanAdvance (A_spec_CanAdvance v6.fst v6.snd.fst v6.snd.snd.fst v6.snd.snd.snd) fun (v8 : Bool × Bool) => if (!v7.snd == v8.snd) = true then some (B false, []) else if (!v7.fst == v8.fst) = true then some (B false, []) else cast en_spec_DrawIsTrapped (A_spec_DrawIsTrapped more) fun (v9 : DBoard × DState × Int) => cast en_impl_IsTrapped (A_impl_IsTrapped v9.fst v9.snd.fst v9.snd.snd) fun (v10 : Bool × Bool) => cast en_spec_IsTrapped (A_spec_IsTrapped v9.fst v9.snd.fst v9.snd.snd) fun (v11 : Bool × Bool) => cast en_impl_CountRetreats (A_impl_CountRetreats v9.fst v9.snd.fst v9.snd.snd 1) fun (v12 : Int × Bool) => cast en_impl_RetreatSteps (A_impl_RetreatSteps v9.fst v9.snd.fst v9.snd.snd) fun (v13 : List Int × Bool) => cast en_spec_RetreatSteps (A_spec_RetreatSteps v9.fst v9.snd.fst v9.snd.snd) fun (v14 : List Int × Bool) => if (v10.snd == v11.snd) = true then if (v10.fst == v11.fst) = true then if (v12.snd == v10.snd) = true then if (!v10.snd) = true then if (v13.snd == v14.snd) = true then cast en_laws_sameInts (A_laws_sameInts v13.fst v14.fst) fun (v15 : Bool) => some (B v15, []) else some (B false, []) else if (v10.fst == (v12.fst == 0)) = true then if (v13.snd == v14.snd) = true then cast en_laws_sameInts (A_laws_sameInts v13.fst v14.fst) fun (v16 : Bool) => some (B v16, []) else some (B false, []) else some (B false, []) else some (B false, []) else some (B false, []) else some (B false, []))
   fun (r : R) => r = (B true, []) := by
  refine koA inj_spec_DrawCanAdvance (o_spec_DrawCanAdvance _ hm) fun v hv => ?_
  obtain ⟨b, s, u, i⟩ := v
  obtain ⟨hn, hu⟩ := hv
  dsimp only at hn hu ⊢
  rw [cast_of inj_impl_CanAdvance (c_impl_CanAdvance _ _ hn (by omega) _ _), cast_of inj_spec_CanAdvance (c_spec_CanAdvance _ _ hn (by omega) _ _), if_neg (by simp), if_neg (by simp)]
  refine koA inj_spec_DrawIsTrapped (o_spec_DrawIsTrapped _ hm) fun v hv => ?_
  obtain ⟨b, s, u⟩ := v
  obtain ⟨hn, hu⟩ := hv
  dsimp only at hn hu ⊢
  have hl := steps_len b s u
  obtain ⟨t1, t2⟩ := trap_cnt b s u
  rw [cast_of inj_impl_IsTrapped (c_impl_IsTrapped _ _ hn (by omega) _), cast_of inj_spec_IsTrapped (c_spec_IsTrapped _ _ hn (by omega) _), cast_of inj_impl_CountRetreats (c_impl_CountRetreats _ _ _ _ hn (by omega)), cast_of inj_impl_RetreatSteps (c_impl_RetreatSteps _ _ hn (by omega) _), cast_of inj_spec_RetreatSteps (c_spec_RetreatSteps _ _ hn (by omega) _), if_pos (by simp), if_pos (by simp), if_pos (by rw [t1]; simp)]
  refine OK.ite (fun _ => ?_) (fun h => ?_)
  ·rw [if_pos (by simp), cast_of inj_laws_sameInts (c_laws_sameInts _ (by omega))]
   exact ⟨_, rfl, rfl⟩
  ·rw [if_pos (by rw [t2 (by simpa using h)]; simp), if_pos (by simp), cast_of inj_laws_sameInts (c_laws_sameInts _ (by omega))]
   exact ⟨_, rfl, rfl⟩
 have loop : ∀ (s t : DState) (i cnt : Int) (l : List Int), (∀ u ∈ l, (∃ x, getI s.Units u = some x) ∧ ∃ y, getI t.Units u = some y) → l.length ≤ 30 → cnt = ((l.filter (movedP i s t)).length : Int) →
   ∀ (r : List Int) (k : Nat) (c : Int), l.drop k = r → 0 ≤ c → c ≤ k → c + ((r.filter (movedP i s t)).length : Int) = cnt → OK (L_laws_FnAdvances_L12 s t more i cnt true true c l l.length k) fun (r : R) => r = (B true, []) := by
  intro s t i cnt l hl hlen hcnt r
  induction r with
  | nil =>
   intro k c hd _ _ he
   have : l.length ≤ k := by simpa using hd
   suffices go : OK (P_laws_FnAdvances_L12 s t more i cnt true true c l l.length k) fun (r : R) => r = (B true, []) by
    obtain ⟨r, q1, q2⟩ := go
    exact ⟨r, e_laws_FnAdvances_L12 _ _ _ _ _ _ _ _ _ _ _ _ q1, q2⟩
   unfold P_laws_FnAdvances_L12
   simp only [List.filter_nil, List.length_nil] at he
   rw [if_neg (by simp; omega), if_neg (by simp), if_neg (by simp), if_neg (by simp; omega)]
   exact fin
  | cons u r ih =>
   intro k c hd hc0 hck he
   have hk : k < l.length := by
    have := congrArg List.length hd
    simp at this
    omega
   have hx : l[k]? = some u := by
    have := congrArg (fun q => q[0]?) hd
    simpa using this
   have hd2 : l.drop (k + 1) = r := by
    have := congrArg List.tail hd
    simpa using this
   obtain ⟨⟨x, hs1⟩, y, ht1⟩ := hl u (mem_of_get hx)
   suffices go : OK (P_laws_FnAdvances_L12 s t more i cnt true true c l l.length k) fun (r : R) => r = (B true, []) by
    obtain ⟨r, q1, q2⟩ := go
    exact ⟨r, e_laws_FnAdvances_L12 _ _ _ _ _ _ _ _ _ _ _ _ q1, q2⟩
   unfold P_laws_FnAdvances_L12
   rw [if_pos (by simp; omega), ixA_at sl_cI rfl hx, ixA_get sl_cUnit _ _ ht1, ixA_get sl_cUnit _ _ hs1, wrap_id (n := (k : Int) + 1) (by omega) (by omega), wrap_id (n := c + 1) (by omega) (by omega)]
   have hm : movedP i s t u = (y.At == i && x.At != i) := by unfold movedP; rw [hs1, ht1]
   rw [List.filter_cons, hm] at he
   have ih1 := fun c h1 h2 h3 => ih (k + 1) c hd2 h1 h2 h3
   simp only [Int.natCast_add, Int.natCast_one] at ih1
   cases h1 : y.At == i with
   | false =>
    rw [h1] at he
    rw [if_neg (by simp)]
    exact ih1 c hc0 (by omega) he
   | true =>
    rw [if_pos rfl]
    cases h2 : x.At != i with
    | false =>
     rw [h1, h2] at he
     rw [if_neg (by simp)]
     exact ih1 c hc0 (by omega) he
    | true =>
     rw [h1, h2] at he
     rw [if_pos rfl]
     refine ih1 (c + 1) (by omega) (by omega) ?_
     rw [if_pos (by rfl), List.length_cons] at he
     omega
 have key : OK (P_laws_FnAdvances code more) fun r => r = (B true, []) := by
  unfold P_laws_FnAdvances
  refine koA inj_laws_big (o_laws_big _ _) fun v0 _ => ?_
  refine OK.ite (fun _ => OK.some rfl) (fun _ => ?_)
  refine koA inj_spec_DrawAdvanceUnits (o_spec_DrawAdvanceUnits _ hc) fun v hv => ?_
  obtain ⟨b, s, l, i⟩ := v
  obtain ⟨hn, hu, hl⟩ := hv
  dsimp only at hn hu hl ⊢
  have hlen : (advR b s l i).1.Units.length ≤ 20 := by
   unfold advR
   split
   ·rw [advL_len]; exact hu
   ·exact Nat.zero_le _
  rw [cast_of inj_impl_AdvanceUnits (c_impl_AdvanceUnits _ _ hn (by omega) _ _ (by omega)), cast_of inj_spec_AdvanceUnits (c_spec_AdvanceUnits _ _ hn (by omega) _ _ (by omega)), if_neg (by simp), if_neg (by simp), cast_of inj_laws_pSameState (c_laws_pSameState _ (by omega)), if_neg (by simp)]
  refine OK.ite (fun hok => ?_) (fun _ => fin)
  have hg : (areB b s l && inB 0 (b.Map.Width * b.Map.Height - 1) i) = true := by
   unfold advR at hok
   cases hg : areB b s l && inB 0 (b.Map.Width * b.Map.Height - 1) i with
   | true => rfl
   | false => rw [hg] at hok; cases hok
  have e1 : advR b s l i = ((advL b i l s 0).1, (advL b i l s 0).2, true) := by unfold advR; rw [if_pos hg]
  rw [Bool.and_eq_true, inB_iff] at hg
  have ha := areB_all hg.1
  have hgm := advL_game hn hg.2.1 (by omega) l s 0 ha
  have hcn := advL_count hn hg.2.1 (by omega) l s 0 ha
  rw [e1] at hlen ⊢
  dsimp only at hlen ⊢
  rw [cast_of inj_impl_IsState (c_impl_IsState _ _ hn (by omega) hgm)]
  refine loop s (advL b i l s 0).1 i _ l (fun u hul => ?_) hl (by omega) l 0 0 rfl (by omega) (by omega) (by omega)
  obtain ⟨x, hx, _⟩ := onMap_ex (ha.o u hul)
  obtain ⟨k, e, _, hkl⟩ := getI_some hx
  exact ⟨⟨x, hx⟩, getI_ex (by omega) (by rw [advL_len]; omega)⟩
 obtain ⟨r, h1, rfl⟩ := key
 exact e_laws_FnAdvances _ _ _ h1
end Go.Ev
