/-
 Eb: one of the texts behind a proof of laws.FnHidden: what the evaluator comes to, the machine comes to
 Its conditions: none of its own.
-/
import Derived.Test.YtcjjgemeacdbiaaGreatDoorEa
import Derived.Laws.BytesArg
import Derived.LoopN
import Derived.Scope
import Derived.Tactics
set_option maxRecDepth 100000
set_option linter.unusedVariables false
set_option linter.unusedSectionVars false
set_option linter.unusedSimpArgs false
set_option linter.unnecessarySimpa false
namespace Go.Ev
open Go Go.RowKit
section
variable {G : Cfg} {c c' : Cx} {σ σ' : Store} {w w' : World} {P : Program}
theorem bytesIn_run {ok : Nat → Prop} : ∀ (xs : List AV) (vs : List Value) (l : List UInt8), bytesIn xs = some l → vs.length = xs.length → (∀ (j : Nat) (x : AV) (v : Value), xs[j]? = some x → vs[j]? = some v → VC ok w x v) →
  ∃ ns : List Int, vs = ns.map (Value.int .u8) ∧ l = ns.map fun n => UInt8.ofNat n.toNat
 | [], vs, l, h, hl, _ => by
  simp only [bytesIn] at h
  cases h
  exact ⟨[], List.eq_nil_of_length_eq_zero (by simpa using hl), rfl⟩
 | x :: r, vs, l, h, hl, hv => by
  unfold bytesIn at h
  split at h
  ·rename_i heq; cases heq
  ·rename_i n r' heq
   cases heq
   obtain ⟨l', hl', rfl⟩ := Option.map_eq_some_iff.1 h
   cases vs with
   | nil => simp at hl
   | cons v q =>
    obtain ⟨ns, h1, h2⟩ := bytesIn_run r q l' hl' (by simpa using hl) (fun j x v hx hv' => hv (j + 1) x v (by simpa using hx) (by simpa using hv'))
    have h0 := hv 0 _ v rfl rfl
    simp only [VC] at h0
    exact ⟨n :: ns, by rw [h0.1, h1]; rfl, by rw [h2]; rfl⟩
  ·cases h
theorem evConv_run (hR : Rel G c σ w) {src dst : TypeId} {x : AV} {a : Value} {e : Eff} (h : evConv G.P σ src dst x = some e) (hx : VR c w x a) :
  e.σ = σ ∧ ∃ v, (convert src dst a).run G.P w = .ok v w ∧ VR c w e.val v := by
 unfold evConv at h
 split at h
 ·rename_i k0 n
  rw [VR_sc] at hx
  subst hx
  split at h
  ·rename_i k hk
   split at h
   ·rename_i u hu
    cases h
    have hd := intT_spec hk
    refine ⟨rfl, _, ?_, VR_sc.2 rfl⟩
    simp [convert, run_underlying hu, run_underlying hd, Conv.intToInt]
   ·cases h
  ·cases h
 ·rename_i s
  rw [VR_sc] at hx
  subst hx
  split at h
  ·rename_i hb
   cases h
   refine ⟨rfl, _, ?_, VR_sc.2 rfl⟩
   simp [convert, run_underlying (isStrT_spec hb.1), run_underlying (isStrT_spec hb.2)]
  ·cases h
 ·split at h
  ·rename_i e' he
   split at h
   ·rename_i hu8
    split at h
    ·rename_i hd
     split at h
     ·rename_i n xs ids hel
      obtain ⟨l, hl, rfl⟩ := Option.map_eq_some_iff.1 h
      obtain ⟨h1, A, k, rfl, h2, h3⟩ := elems_run hR hel hx
      refine ⟨rfl, .string ⟨l.toArray⟩, ?_, VR_sc.2 rfl⟩
      rw [run_convert_bytes_string w src dst e' A n k (slT_spec he) hu8 (isStrT_spec hd)]
      rcases h3 with rfl | ⟨b, off, rfl, h4⟩
      ·simp only [bytesIn] at hl
       cases hl
       have h0 : n = 0 := by simpa using h1.symm
       subst h0
       cases A with
       | none => simp [Conv.bytesToString]; rfl
       | some a =>
        have := run_bytesToString (P := G.P) w a 0 k [] (by simpa using run_loadCells_list (P := G.P) w a [] (by simp))
        rw [this]; rfl
      ·obtain ⟨vs, o1, o2, o3⟩ := VCs_vals h4
       obtain ⟨ns, rfl, rfl⟩ := bytesIn_run xs vs l hl o1 o3
       have hload := run_loadCells_list (P := G.P) w ⟨b, off, none⟩ (ns.map (Value.int .u8)) (fun j u hu => by rw [add_lit']; exact o2 j u hu)
       have hlen : (ns.map (Value.int .u8)).length = n := by rw [o1, h1, Nat.mul_one]
       rw [hlen] at hload
       rw [run_bytesToString w _ n k ns hload, foldl_push_bytes]
       simp [ByteArray.empty, ByteArray.emptyWithCapacity]
       rfl
     ·cases h
    ·cases h
   ·cases h
  ·cases h
theorem lenA_run {t ty : TypeId} {x r : AV} {a : Value} (h : lenA P t x = some r) (hx : VR c w x a) : ∃ v, (Builtin.len_ #[t] ty #[a]).run P w = .ok v w ∧ VR c w r v := by
 unfold lenA at h
 split at h
 ·rw [VR_sc] at hx
  subst hx
  split at h
  ·rename_i hs
   cases h
   exact ⟨_, by simp [Builtin.len_, run_underlying (isStrT_spec hs)]; rfl, VR_sc.2 rfl⟩
  ·cases h
 ·obtain ⟨e, he, rfl⟩ := Option.map_eq_some_iff.1 h
  rw [VR_sc] at hx
  subst hx
  exact ⟨_, by simp [Builtin.len_, run_underlying (slT_spec he)]; rfl, VR_sc.2 rfl⟩
 ·obtain ⟨e, he, rfl⟩ := Option.map_eq_some_iff.1 h
  obtain ⟨A, k, rfl, _⟩ := VR_sl.1 hx
  exact ⟨_, by simp [Builtin.len_, run_underlying (slT_spec he)]; rfl, VR_sc.2 rfl⟩
 ·obtain ⟨e, he, rfl⟩ := Option.map_eq_some_iff.1 h
  obtain ⟨A, rfl⟩ := VR_emp.1 hx
  exact ⟨_, by simp [Builtin.len_, run_underlying (slT_spec he)]; rfl, VR_sc.2 rfl⟩
 ·obtain ⟨e, he, rfl⟩ := Option.map_eq_some_iff.1 h
  obtain ⟨_, A, k, rfl, _⟩ := VR_own.1 hx
  exact ⟨_, by simp [Builtin.len_, run_underlying (slT_spec he)]; rfl, VR_sc.2 rfl⟩
 ·obtain ⟨⟨n, e⟩, he, rfl⟩ := Option.map_eq_some_iff.1 h
  exact ⟨_, by simp [Builtin.len_, run_underlying (arT_spec he)]; rfl, VR_sc.2 rfl⟩
 ·cases h
theorem mm_go {mx : Bool} {k : IntKind} : ∀ (xs : List AV) (vs : List Value) (a : Int) (r : AV), mm.go mx k a xs = some r → VRt c w xs vs →
  ∃ v, (vs.foldlM (if mx then Builtin.max2 else Builtin.min2) (Value.int k a)).run P w = .ok v w ∧ VR c w r v
 | [], [], a, r, h, _ => by
  simp only [mm.go] at h
  cases h
  exact ⟨_, by simp, VR_sc.2 rfl⟩
 | x :: xs, v :: vs, a, r, h, hx => by
  simp only [VRt] at hx
  cases x with
  | sc u =>
   rw [VR_sc] at hx
   obtain ⟨rfl, hx⟩ := hx
   cases v with
   | int k' b =>
    simp only [mm.go] at h
    obtain ⟨v, h1, h2⟩ := mm_go xs vs _ r h hx
    refine ⟨v, ?_, h2⟩
    cases mx
    ·simpa [List.foldlM_cons, Builtin.min2] using h1
    ·simpa [List.foldlM_cons, Builtin.max2] using h1
   | _ => simp [mm.go] at h
  | _ => simp [mm.go] at h
 | [], _ :: _, _, _, _, hx => by simp [VRt] at hx
 | _ :: _, [], _, _, _, hx => by simp [VRt] at hx
theorem mm_run {mx : Bool} {xs : List AV} {vs : List Value} {r : AV} (h : mm mx xs = some r) (hx : VRt c w xs vs) {tys : Array TypeId} {ty : TypeId} :
  ∃ v, (if mx then Builtin.max_ tys ty vs.toArray else Builtin.min_ tys ty vs.toArray).run P w = .ok v w ∧ VR c w r v := by
 cases xs with
 | nil => simp [mm] at h
 | cons x xs =>
  cases vs with
  | nil => simp [VRt] at hx
  | cons v vs =>
   simp only [VRt] at hx
   cases x with
   | sc u =>
    rw [VR_sc] at hx
    obtain ⟨rfl, hx⟩ := hx
    cases v with
    | int k a =>
     simp only [mm] at h
     obtain ⟨v, h1, h2⟩ := mm_go (P := P) xs vs a r h hx
     refine ⟨v, ?_, h2⟩
     cases mx
     ·simpa [Builtin.min_] using h1
     ·simpa [Builtin.max_] using h1
    | _ => simp [mm] at h
   | _ => simp [mm] at h
def OpOk (G : Cfg) (c : Cx) (w : World) (r : Result Next) (e : Eff) : Prop :=
 ∃ c' w' nx, r = .ok nx w' ∧ Rel G c' e.σ w' ∧ Ext c w c' w' ∧ ((∃ v, nx = .value v ∧ VR c' w' e.val v) ∨ (nx = .skip ∧ e.val = undefA))
theorem OpOk.pure (hR : Rel G c σ w) {x : Option AV} {e : Eff} (h : pure_ σ x = some e) {s : Sem Value} (hs : ∀ r, x = some r → ∃ v, s.run G.P w = .ok v w ∧ VR c w r v) :
  OpOk G c w ((do Pure.pure (Next.value (← s)) : Sem Next).run G.P w) e := by
 unfold pure_ at h
 obtain ⟨r, hr, rfl⟩ := Option.map_eq_some_iff.1 h
 obtain ⟨v, h1, h2⟩ := hs r hr
 exact ⟨c, w, .value v, by simp [h1], hR, Ext.refl c w, .inl ⟨v, rfl, h2⟩⟩
theorem OpOk.of {e : Eff} {s : Sem Value} (h : ∃ c' w' v, s.run G.P w = .ok v w' ∧ Rel G c' e.σ w' ∧ Ext c w c' w' ∧ VR c' w' e.val v) :
  OpOk G c w ((do Pure.pure (Next.value (← s)) : Sem Next).run G.P w) e := by
 obtain ⟨c', w', v, h1, h2, h3, h4⟩ := h
 exact ⟨c', w', .value v, by simp [h1], h2, h3, .inl ⟨v, rfl, h4⟩⟩
theorem evOp1_run (hR : Rel G c σ w) {ts : List AV} {a : Act} (ht : VRt c w ts a.tmps.toList) {inl : Bool} {o : Oper} {e : Eff} (h : evOp1 G inl (evOpd G ts) σ o.dst o.op = some e) : OpOk G c w ((execOp a.eval o).run G.P w) e := by
 have hop : ∀ x, VR c w (evOpd G ts x) (a.eval x) := VR_opd hR ht
 unfold execOp
 cases hoo : o.op with
 | move x =>
  rw [hoo] at h
  simp only [evOp1] at h
  unfold pure_ at h
  cases h
  exact ⟨c, w, _, by simp, hR, Ext.refl c w, .inl ⟨_, rfl, hop x⟩⟩
 | assign x =>
  rw [hoo] at h
  simp only [evOp1] at h
  unfold pure_ at h
  cases h
  exact ⟨c, w, _, by simp, hR, Ext.refl c w, .inl ⟨_, rfl, hop x⟩⟩
 | pick q x y =>
  rw [hoo] at h
  simp only [evOp1] at h
  unfold pure_ at h
  obtain ⟨r, hr, rfl⟩ := Option.map_eq_some_iff.1 h
  unfold evPick at hr
  split at hr
  ·rename_i b hb
   cases hr
   have hq := hop q
   rw [hb, VR_sc] at hq
   refine ⟨c, w, .value (if b then a.eval x else a.eval y), by simp [hq, asBool], hR, Ext.refl c w, .inl ⟨_, rfl, ?_⟩⟩
   cases b
   ·exact hop y
   ·exact hop x
  ·cases hr
 | alloc elem => rw [hoo] at h; exact OpOk.of (evAlloc_run hR h)
 | box elem x => rw [hoo] at h; exact OpOk.of (evBox_run hR h (hop x))
 | build ty parts =>
  rw [hoo] at h
  exact OpOk.pure hR h fun r hr => evBuild_run hr (by simpa using VRp_parts hR ht parts.toList)
 | buildSlice ty len parts =>
  rw [hoo] at h
  exact OpOk.of (evBuildSlice_run hR h (by simpa using VRp_parts hR ht parts.toList))
 | load ty x =>
  rw [hoo] at h
  obtain ⟨r, hr, rfl⟩ := Option.map_eq_some_iff.1 h
  obtain ⟨v, h1, h2⟩ := loadA_run hR hr (hop x)
  exact ⟨c, w, .value v, by simp [h1], hR, Ext.refl c w, .inl ⟨v, rfl, h2⟩⟩
 | store ty x y =>
  rw [hoo] at h
  obtain ⟨c', w', h1, h2, h3, h4⟩ := storeA_run hR h (hop x) (hop y)
  exact ⟨c', w', .skip, by simp [h1], h2, h3, .inr ⟨rfl, h4⟩⟩
 | nilCheck x =>
  rw [hoo] at h
  simp only [evOp1] at h
  unfold pure_ at h
  obtain ⟨r, hr, rfl⟩ := Option.map_eq_some_iff.1 h
  have hx := hop x
  unfold evNilCheck at hr
  split at hr
  ·rename_i id s off heq
   cases hr
   rw [heq] at hx
   have hx' := hx
   obtain ⟨_, ad, hv, _⟩ := VR_ptr.1 hx
   exact ⟨c, w, .value (a.eval x), by simp [hv], hR, Ext.refl c w, .inl ⟨_, rfl, hx'⟩⟩
  ·rename_i xs heq
   cases hr
   rw [heq] at hx
   have hx' := hx
   simp only [VR] at hx
   obtain ⟨ad, hv, _⟩ := hx
   exact ⟨c, w, .value (a.eval x), by simp [hv], hR, Ext.refl c w, .inl ⟨_, rfl, hx'⟩⟩
  ·rename_i g cs heq
   cases hr
   rw [heq] at hx
   have hx' := hx
   simp only [VR] at hx
   obtain ⟨vs, hv, _⟩ := hx
   exact ⟨c, w, .value (a.eval x), by simp [hv], hR, Ext.refl c w, .inl ⟨_, rfl, hx'⟩⟩
  ·cases hr
 | binOp op ty x y z =>
  rw [hoo] at h
  exact OpOk.pure hR h fun r hr => evBinOpN_run (ρ := a.eval) hr (hop x) (hop y) (fun v hv => by rw [hv]; rfl)
 | unOp op ty x =>
  rw [hoo] at h
  exact OpOk.pure hR h fun r hr => evUn_run hr (hop x)
 | convert src dst x =>
  rw [hoo] at h
  obtain ⟨h1, v, h2, h3⟩ := evConv_run hR h (hR.knv (hop x))
  exact ⟨c, w, .value v, by simp [h2], by rw [h1]; exact hR, Ext.refl c w, .inl ⟨v, rfl, h3⟩⟩
 | makeFunc fn first caps =>
  rw [hoo] at h
  refine OpOk.pure hR h fun r hr => ?_
  unfold evMakeFunc at hr
  split at hr
  ·rename_i g
   split at hr
   ·rename_i hf
    cases hr
    have hf' : first = #[] := by simpa using hf
    subst hf'
    refine ⟨.func (.func g) #[] (caps.map a.eval), by simp [Instr.makeFunc], ?_⟩
    simp only [VR]
    refine ⟨_, rfl, ?_⟩
    rw [Array.toList_map]
    refine VRt_mk (by simp) fun j y v hy hv => ?_
    rw [List.getElem?_map] at hy hv
    cases hc : caps.toList[j]? with
    | none => rw [hc] at hy; cases hy
    | some q => rw [hc] at hy hv; cases hy; cases hv; exact hop q
   ·cases hr
  ·cases hr
 | makeSlice ty l m => rw [hoo] at h; exact OpOk.of (evMakeSlice_run hR h (hop l) (hop m))
 | slice ty x lo hi mx =>
  rw [hoo] at h
  have ho : ∀ q : Option Operand, VRo c w (q.map (evOpd G ts)) (q.map a.eval) := fun q => by cases q <;> simp only [Option.map, VRo]; exact hop _
  obtain ⟨r, hr, rfl⟩ := Option.map_eq_some_iff.1 h
  obtain ⟨v, h1, h2⟩ := evSlice_run hR hr (hR.knv (hop x)) (ho lo) (ho hi) (ho mx)
  exact OpOk.of ⟨c, w, v, h1, hR, Ext.refl c w, h2⟩
 | fieldAddr ty x i => rw [hoo] at h; exact OpOk.pure hR h fun r hr => evFieldAddr_run hr (hop x)
 | field ty x i => rw [hoo] at h; exact OpOk.pure hR h fun r hr => evField_run hr (hop x)
 | indexAddr ty x i => rw [hoo] at h; exact OpOk.pure hR h fun r hr => evIndexAddr_run hr (hR.knv (hop x)) (hop i)
 | index ty x i => rw [hoo] at h; exact OpOk.pure hR h fun r hr => evIndex_run hr (hop x) (hop i)
 | extract x i =>
  rw [hoo] at h
  refine OpOk.pure hR h fun r hr => ?_
  have hx := hop x
  unfold evExtract at hr
  split at hr
  ·rename_i vs heq
   rw [heq] at hx
   simp only [VR] at hx
   obtain ⟨us, hv, hvs⟩ := hx
   obtain ⟨u, hu, hr'⟩ := VRt_get hvs i r hr
   rw [hv]
   exact ⟨u, by simp [Instr.extract, ← Array.getElem?_toList, hu], hr'⟩
  ·cases hr
 | _ => rw [hoo] at h; simp [evOp1] at h
end
end Go.Ev
namespace Go.Ev
open Go Go.RowKit
section
variable {G : Cfg} {c c' : Cx} {σ σ' : Store} {w w' : World} {P : Program}
theorem mem_memId {i : Id} {l : List Id} : memId i l = true ↔ i ∈ l := by
 induction l with
 | nil => simp [memId]
 | cons j r ih =>
  simp only [memId]
  split
  ·rename_i h; subst h; simp
  ·rename_i h
   rw [ih, List.mem_cons]
   exact ⟨.inr, fun h' => h'.elim (fun e => absurd e.symm h) id⟩
theorem nodupB_iff {l : List Id} : nodupB l = true ↔ l.Nodup := by
 induction l with
 | nil => simp [nodupB]
 | cons j r ih =>
  simp only [nodupB, Bool.and_eq_true, Bool.not_eq_true', List.nodup_cons, ih]
  rw [← Bool.not_eq_true, mem_memId]
def Names.fro (N : Names) (j : Id) : Option Id := Names.to (N.map fun p => (p.2, p.1)) j
theorem to_mem {N : Names} {a b : Id} (h : N.to a = some b) : (a, b) ∈ N := by
 induction N with
 | nil => simp [Names.to] at h
 | cons p r ih =>
  obtain ⟨x, y⟩ := p
  simp only [Names.to] at h
  split at h
  ·rename_i e; cases h; subst e; simp
  ·exact List.mem_cons_of_mem _ (ih h)
theorem to_of_mem {N : Names} {a b : Id} (hn : (N.map (·.1)).Nodup) (h : (a, b) ∈ N) : N.to a = some b := by
 induction N with
 | nil => simp at h
 | cons p r ih =>
  obtain ⟨x, y⟩ := p
  simp only [List.map_cons, List.nodup_cons] at hn
  simp only [Names.to]
  rcases List.mem_cons.1 h with h | h
  ·cases h; rw [if_pos rfl]
  ·rw [if_neg (fun e => hn.1 (by subst e; exact List.mem_map.2 ⟨_, h, rfl⟩))]
   exact ih hn.2 h
theorem ok_spec {N : Names} (h : N.ok = true) : (N.map (·.1)).Nodup ∧ (N.map (·.2)).Nodup := by
 unfold Names.ok at h
 rw [Bool.and_eq_true] at h
 exact ⟨nodupB_iff.1 h.1, nodupB_iff.1 h.2⟩
theorem to_fro {N : Names} (h : N.ok = true) {a b : Id} : N.to a = some b ↔ N.fro b = some a := by
 obtain ⟨h1, h2⟩ := ok_spec h
 refine ⟨fun k => ?_, fun k => ?_⟩
 ·refine to_of_mem (by rw [List.map_map]; exact h2) (List.mem_map.2 ⟨(a, b), to_mem k, rfl⟩)
 ·obtain ⟨⟨x, y⟩, hp, he⟩ := List.mem_map.1 (to_mem k)
  cases he
  exact to_of_mem h1 hp
theorem to_inj {N : Names} (h : N.ok = true) {a a' b : Id} (h1 : N.to a = some b) (h2 : N.to a' = some b) : a = a' := by
 rw [to_fro h] at h1 h2
 rw [h1] at h2
 cases h2
 rfl
theorem ren_get {M : Names} : ∀ (N : Names) (j : Id), (Store.ren σ M N).get? j = (N.fro j).bind fun a => (σ.get? a).map (Blk.ren M)
 | [], j => rfl
 | (a, b) :: r, j => by
  simp only [Store.ren, Store.get?, Names.fro, List.map_cons, Names.to]
  split
  ·rfl
  ·exact ren_get r j
theorem ren_has {M : Names} : ∀ (N : Names) (j : Id), (Store.ren σ M N).has j = (N.fro j).isSome
 | [], j => rfl
 | (a, b) :: r, j => by
  simp only [Store.ren, Store.has, Names.fro, List.map_cons, Names.to]
  split
  ·rfl
  ·exact ren_has r j
theorem lendS_get : ∀ (τ : Store) (j : Id), (lendS τ).get? j = (τ.get? j).map fun b => { b with fr := false }
 | [], _ => rfl
 | (i, b) :: r, j => by
  simp only [lendS, Store.get?]
  split
  ·rfl
  ·exact lendS_get r j
theorem lendS_has : ∀ (τ : Store) (j : Id), (lendS τ).has j = τ.has j
 | [], _ => rfl
 | (i, b) :: r, j => by
  simp only [lendS, Store.has]
  split
  ·rfl
  ·exact lendS_has r j
theorem VC_noimm {ok ok' : Nat → Prop} {x : AV} {v : Value} (hi : x.imm = false) (h : VC ok w x v) : VC ok' w x v := by
 cases x <;> simp only [VC] at h ⊢ <;> first | exact h | (simp [AV.imm] at hi)
theorem immL_mem {xs : List AV} (h : AV.immL xs = false) : ∀ x, x ∈ xs → x.imm = false := by
 induction xs with
 | nil => intro x hx; cases hx
 | cons y r ih =>
  simp only [AV.immL, Bool.or_eq_false_iff] at h
  intro x hx
  rcases List.mem_cons.1 hx with rfl | hx
  ·exact h.1
  ·exact ih h.2 x hx
theorem VCs_noimm {ok ok' : Nat → Prop} {xs : List AV} {b off : Nat} (hi : AV.immL xs = false) (h : VCs ok w xs b off) : VCs ok' w xs b off :=
 VCs_mk fun j x hx => by
  obtain ⟨v, h1, h2⟩ := VCs_get h j x hx
  exact ⟨v, h1, VC_noimm (immL_mem hi x (List.mem_of_getElem? hx)) h2⟩
mutual
theorem VR_ren {N : Names} (hk : ∀ id j, N.to id = some j → c.kn id → c'.kn j ∧ ∀ sub, c'.m (j, sub) = none ∨ c'.m (j, sub) = c.m (id, sub)) :
  ∀ (x : AV) (v : Value), (x.imm = false ∨ ∀ b, c.ok w b → c'.ok w b) → VR c w x v → VR c' w (x.ren N) v
 | .sc _, _, _, h => by simp only [AV.ren]; simpa only [VR] using h
 | .own id sub off n cap, v, _, h => by
  simp only [AV.ren]
  split
  ·rename_i j hj
   simp only [VR] at h ⊢
   obtain ⟨h1, A, k, h2, h3, h4, h5, h6, h7⟩ := h
   obtain ⟨k1, k2⟩ := hk id j hj h1
   refine ⟨k1, A, k, h2, h3, h4, h5, fun hm => ?_, fun b sh e hm => ?_⟩
   ·rcases k2 sub with e | e
    ·rw [e] at hm; cases hm
    ·exact h6 (e ▸ hm)
   ·rcases k2 sub with e' | e'
    ·rw [e'] at hm; cases hm
    ·exact h7 b sh e (e' ▸ hm)
  ·simp only [VR]
 | .ptr id sub off, v, _, h => by
  simp only [AV.ren]
  split
  ·rename_i j hj
   simp only [VR] at h ⊢
   obtain ⟨h1, a, h2, h3⟩ := h
   obtain ⟨k1, k2⟩ := hk id j hj h1
   refine ⟨k1, a, h2, fun b sh e hm => ?_⟩
   rcases k2 sub with e' | e'
   ·rw [e'] at hm; cases hm
   ·exact h3 b sh e (e' ▸ hm)
  ·simp only [VR]
 | .iptr xs, v, hi, h => by
  simp only [AV.ren]
  simp only [VR] at h ⊢
  obtain ⟨a, h1, h2⟩ := h
  refine ⟨a, h1, ?_⟩
  rcases hi with hi | hi
  ·simp [AV.imm] at hi
  ·rcases h2 with h2 | ⟨h2, h3, h4⟩
   ·exact .inl h2
   ·exact .inr ⟨h2, hi _ h3, VCs_ok hi h4⟩
 | .agg cs, v, hi, h => by
  simp only [AV.ren]
  simp only [VR] at h ⊢
  obtain ⟨vs, h1, h2, h3⟩ := h
  exact ⟨vs, h1, VRt_ren hk cs _ (by simpa only [AV.imm] using hi) h2, h3⟩
 | .tup cs, v, hi, h => by
  simp only [AV.ren]
  simp only [VR] at h ⊢
  obtain ⟨vs, h1, h2⟩ := h
  exact ⟨vs, h1, VRt_ren hk cs _ (by simpa only [AV.imm] using hi) h2⟩
 | .clo f cs, v, hi, h => by
  simp only [AV.ren]
  simp only [VR] at h ⊢
  obtain ⟨vs, h1, h2⟩ := h
  exact ⟨vs, h1, VRt_ren hk cs _ (by simpa only [AV.imm] using hi) h2⟩
 | .junk, _, _, _ => by simp only [AV.ren, VR]
 | .sl e n xs, v, hi, h => by
  simp only [AV.ren]
  simp only [VR] at h ⊢
  rcases hi with hi | hi
  ·simp [AV.imm] at hi
  ·exact VC_ok hi h
 | .nst e n xs, v, hi, h => by
  simp only [AV.ren]
  simp only [VR, VC] at h ⊢
  exact h
 | .emp, v, hi, h => by
  simp only [AV.ren]
  simp only [VR, VC] at h ⊢
  exact h
theorem VRt_ren {N : Names} (hk : ∀ id j, N.to id = some j → c.kn id → c'.kn j ∧ ∀ sub, c'.m (j, sub) = none ∨ c'.m (j, sub) = c.m (id, sub)) :
  ∀ (xs : List AV) (vs : List Value), (AV.immL xs = false ∨ ∀ b, c.ok w b → c'.ok w b) → VRt c w xs vs → VRt c' w (AV.renL N xs) vs
 | [], [], _, _ => by simp only [AV.renL, VRt]
 | x :: r, v :: q, hi, h => by
  simp only [VRt] at h
  simp only [AV.renL, VRt]
  refine ⟨VR_ren hk x v ?_ h.1, VRt_ren hk r q ?_ h.2⟩
  ·rcases hi with hi | hi
   ·simp only [AV.immL, Bool.or_eq_false_iff] at hi; exact .inl hi.1
   ·exact .inr hi
  ·rcases hi with hi | hi
   ·simp only [AV.immL, Bool.or_eq_false_iff] at hi; exact .inl hi.2
   ·exact .inr hi
 | [], _ :: _, _, h => by simp [VRt] at h
 | _ :: _, [], _, h => by simp [VRt] at h
end
theorem renL_get {N : Names} : ∀ (xs : List AV) (j : Nat), (AV.renL N xs)[j]? = (xs[j]?).map (AV.ren N)
 | [], j => by simp [AV.renL]
 | x :: r, 0 => by simp [AV.renL]
 | x :: r, j + 1 => by simp [AV.renL, renL_get r j]
theorem BlkOk_ren {N : Names} (hk : ∀ id j, N.to id = some j → c.kn id → c'.kn j ∧ ∀ sub, c'.m (j, sub) = none ∨ c'.m (j, sub) = c.m (id, sub)) {id j : Id} {blk : Blk} {fr' : Bool}
  (hi : AV.immL blk.cells = false ∨ ∀ b, c.ok w b → c'.ok w b) (hm : ∀ sub, c'.m (j, sub) = c.m (id, sub)) (hfr : fr' = true → ∀ sub b sh e, c.m (id, sub) = some (some (b, sh, e)) → c'.base ≤ b)
  (h : BlkOk c w id blk) : BlkOk c' w j { blk.ren N with fr := fr' } := by
 have harr : (blk.ren N).arr = blk.arr := by unfold Blk.ren; split <;> rfl
 have hesz : (blk.ren N).esz = blk.esz := by unfold Blk.ren; split <;> rfl
 rcases h with ⟨h1, h2, h3⟩ | ⟨b, sh, h1, h2, _, h4⟩
 ·refine .inl ⟨by rw [hm]; exact h1, ?_, ?_⟩
  ·simp only [Blk.ren, h3, if_true, h2]
  ·simp only [harr, h3]
 ·refine .inr ⟨b, sh, by rw [hm]; simp only [hesz]; exact h1, h2, fun hf => hfr hf none b sh _ h1, fun p x hx => ?_⟩
  cases ha : blk.arr with
  | true =>
   have hx' : blk.cells[p]? = some x := by simpa [Blk.ren, ha] using hx
   obtain ⟨v, hv, hc⟩ := h4 p x hx'
   refine ⟨v, hv, hc.1, ?_⟩
   have hc2 := hc.2
   rw [if_pos ha] at hc2
   simp only [harr, ha, if_true]
   have hcell : ∀ y u, (y.imm = false ∨ ∀ b, c.ok w b → c'.ok w b) → VC (c.ok w) w y u → VC (c'.ok w) w y u := by
    intro y u hy hu
    rcases hy with hy | hy
    ·exact VC_noimm hy hu
    ·exact VC_ok hy hu
   have hix : x.imm = false ∨ ∀ b, c.ok w b → c'.ok w b := hi.imp (fun h => immL_mem h x (List.mem_of_getElem? hx')) (fun h => h)
   refine ⟨hcell x v hix hc2.1, fun e n xs he => ?_⟩
   obtain ⟨A, k, k1, k2, k3⟩ := hc2.2 e n xs he
   refine ⟨A, k, k1, k2, ?_⟩
   rcases k3 with ⟨m1, m2, m3⟩ | ⟨b', sh', m1, m2, m3, _, m5, m6⟩
   ·exact .inl ⟨by rw [hm]; exact m1, m2, m3⟩
   ·refine .inr ⟨b', sh', by rw [hm]; exact m1, m2, m3, fun hf => hfr hf _ b' sh' _ m1, m5, ?_⟩
    rcases hix with hix | hix
    ·subst he
     exact VCs_noimm (by simpa only [AV.imm] using hix) m6
    ·exact VCs_ok hix m6
  | false =>
   have hx' : (AV.renL N blk.cells)[p]? = some x := by simpa [Blk.ren, ha] using hx
   rw [renL_get] at hx'
   obtain ⟨y, hy, rfl⟩ := Option.map_eq_some_iff.1 hx'
   obtain ⟨v, hv, hc⟩ := h4 p y hy
   refine ⟨v, hv, hc.1, ?_⟩
   have hc2 := hc.2
   rw [if_neg (by simp [ha])] at hc2
   simp only [harr, ha, Bool.false_eq_true, if_false]
   exact VR_ren hk y v (hi.imp (fun h => immL_mem h y (List.mem_of_getElem? hy)) (fun h => h)) hc2
end
end Go.Ev
namespace Go.Ev
open Go Go.RowKit
section
variable {G : Cfg} {c c' : Cx} {σ σ' : Store} {w w' : World} {P : Program}
def Cx.ren (c : Cx) (N : Names) (S' : Nat → Prop) (base' : Nat) : Cx where
 m := fun k => match N.fro k.1 with
  | some a => c.m (a, k.2)
  | none => none
 kn := fun j => (N.fro j).isSome = true
 S := S'
 base := base'
theorem ren_m {N : Names} {S' : Nat → Prop} {base' : Nat} {a j : Id} (h : N.fro j = some a) (sub : Option Nat) : (c.ren N S' base').m (j, sub) = c.m (a, sub) := by
 simp only [Cx.ren, h]
theorem ren_some {N : Names} {S' : Nat → Prop} {base' : Nat} {j : Id} {sub : Option Nat} (h : (c.ren N S' base').m (j, sub) ≠ none) : ∃ a, N.fro j = some a ∧ (c.ren N S' base').m (j, sub) = c.m (a, sub) := by
 cases hf : N.fro j with
 | none => simp [Cx.ren, hf] at h
 | some a => exact ⟨a, rfl, ren_m hf sub⟩
theorem fr_base (hR : Rel G c σ w) {id : Id} {blk : Blk} (hb : σ.get? id = some blk) (hfr : blk.fr = true) : ∀ sub b sh e, c.m (id, sub) = some (some (b, sh, e)) → c.base ≤ b := by
 intro sub b sh e hm
 rcases hR.blk id blk hb with ⟨h1, h2, _⟩ | ⟨b', sh', h1, _, h3, h4⟩
 ·cases sub with
  | none => rw [h1] at hm; cases hm
  | some p =>
   obtain ⟨bb, k1, k2⟩ := hR.dom id (some p) (by rw [hm]; simp)
   rw [hb] at k1
   cases k1
   obtain ⟨_, e, n, xs, hx⟩ := k2 p rfl
   rw [h2] at hx
   simp at hx
 ·cases sub with
  | none => rw [h1] at hm; cases hm; exact h3 hfr
  | some p =>
   obtain ⟨bb, k1, k2⟩ := hR.dom id (some p) (by rw [hm]; simp)
   rw [hb] at k1
   cases k1
   obtain ⟨ha, e', n, xs, hx⟩ := k2 p rfl
   obtain ⟨v, _, hc⟩ := h4 p _ hx
   unfold CellOk at hc
   rw [if_pos ha] at hc
   obtain ⟨A, k, _, _, hk⟩ := hc.2.2 _ _ _ rfl
   rcases hk with ⟨hk, _⟩ | ⟨b2, sh2, hk, _, _, hk2, _⟩
   ·rw [hk] at hm; cases hm
   ·rw [hk] at hm; cases hm; exact hk2 hfr
theorem Rel.ren (hR : Rel G c σ w) {N : Names} (hN : N.ok = true) {S' : Nat → Prop} {base' : Nat} (hS : ∀ b, S' b → b < base' ∧ ∀ id j sub sh e, N.to id = some j → c.m (id, sub) ≠ some (some (b, sh, e)))
  (hbase : base' ≤ w.heap.size) (hok : ∀ b, c.ok w b → (c.ren N S' base').ok w b) (hSS : ∀ b, c.S b → S' b) {τ : Store} {fr : Bool → Bool} (hfr : ∀ f, fr f = true → base' ≤ c.base ∧ f = true)
  (hhas : ∀ j, τ.has j = (N.fro j).isSome) (hget : ∀ j, τ.get? j = (N.fro j).bind fun a => (σ.get? a).map fun b => { b.ren N with fr := fr b.fr }) : Rel G (c.ren N S' base') τ w := by
 have hk : ∀ id j, N.to id = some j → c.kn id → (c.ren N S' base').kn j ∧ ∀ sub, (c.ren N S' base').m (j, sub) = none ∨ (c.ren N S' base').m (j, sub) = c.m (id, sub) := by
  intro id j hj _
  rw [to_fro hN] at hj
  exact ⟨by simp only [Cx.ren, hj, Option.isSome], fun sub => .inr (ren_m hj sub)⟩
 refine ⟨?_, ?_, ?_, ?_, ?_, ?_, hbase, ?_, fun v n xs hkv => VC_mono (fun b hb => ⟨hSS b hb, rfl⟩) _ _ (hR.know v n xs hkv)⟩
 ·rintro ⟨j, s⟩ ⟨j', s'⟩ b sh e sh' e' h1 h2
  obtain ⟨a, ha, e1⟩ := ren_some (by rw [h1]; simp)
  obtain ⟨a', ha', e2⟩ := ren_some (by rw [h2]; simp)
  rw [e1] at h1
  rw [e2] at h2
  have := hR.inj _ _ _ _ _ _ _ h1 h2
  cases this
  rw [← to_fro hN] at ha ha'
  rw [ha] at ha'
  cases ha'
  rfl
 ·rintro b ⟨⟨j, s⟩, sh, e, h⟩
  obtain ⟨a, ha, e1⟩ := ren_some (by rw [h]; simp)
  rw [e1] at h
  exact hR.lt b ⟨_, _, _, h⟩
 ·intro j
  rw [hhas]
  rfl
 ·intro j sub h
  obtain ⟨a, ha, e1⟩ := ren_some h
  rw [e1] at h
  obtain ⟨blk, h1, h2⟩ := hR.dom a sub h
  refine ⟨{ blk.ren N with fr := fr blk.fr }, by rw [hget, ha, Option.bind_some, h1, Option.map_some], fun p hp => ?_⟩
  obtain ⟨k1, e, n, xs, k2⟩ := h2 p hp
  refine ⟨by simp [Blk.ren, k1], e, n, xs, by simpa [Blk.ren, k1] using k2⟩
 ·intro j blk' h
  rw [hget] at h
  obtain ⟨a, ha, h⟩ := Option.bind_eq_some_iff.1 h
  obtain ⟨blk, hb, rfl⟩ := Option.map_eq_some_iff.1 h
  refine BlkOk_ren hk (.inr hok) (ren_m ha) (fun hf sub b sh e hm => ?_) (hR.blk a blk hb)
  obtain ⟨h1, h2⟩ := hfr _ hf
  exact Nat.le_trans h1 (fr_base hR hb h2 sub b sh e hm)
 ·intro b hb
  obtain ⟨h1, h2⟩ := hS b hb
  refine ⟨h1, ?_⟩
  rintro ⟨⟨j, s⟩, sh, e, h⟩
  obtain ⟨a, ha, e1⟩ := ren_some (by rw [h]; simp)
  rw [e1] at h
  exact h2 a j s sh e ((to_fro hN).2 ha) h
 ·intro g cs hg
  obtain ⟨h1, h2⟩ := hR.glob g cs hg
  exact ⟨hSS g h1, VCs_ok hok h2⟩
structure Fr (c : Cx) (w : World) (c' : Cx) (w' : World) : Prop where
 base : c'.base = c.base
 S : c'.S = c.S
 size : w.heap.size ≤ w'.heap.size
 kn : ∀ i, c.kn (.l i) → c'.kn (.l i)
 m : ∀ i sub, c.kn (.l i) → c'.m (.l i, sub) = none ∨ c'.m (.l i, sub) = c.m (.l i, sub)
 new : ∀ b, c'.at_ b → c.at_ b ∨ w.heap.size ≤ b
 keep : ∀ b, b < w.heap.size → ¬ c.at_ b → w'.heap[b]? = w.heap[b]?
 shape : ∀ b, b < w.heap.size → w'.shape? b = w.shape? b
 os : w'.os = w.os
 tape : w'.tape = w.tape
 output : w'.output = w.output
theorem Fr.of (h : Ext c w c' w') : Fr c w c' w' := ⟨h.base, h.S, h.size, fun _ => h.kn _, fun _ sub => h.m _ sub, h.new, h.keep, h.shape, h.os, h.tape, h.output⟩
theorem Fr.refl (c : Cx) (w : World) : Fr c w c w := Fr.of (Ext.refl c w)
theorem Fr.trans {c c' c'' : Cx} {w w' w'' : World} (h : Fr c w c' w') (k : Fr c' w' c'' w'') : Fr c w c'' w'' where
 base := k.base.trans h.base
 S := k.S.trans h.S
 size := Nat.le_trans h.size k.size
 kn := fun id hi => k.kn id (h.kn id hi)
 m := fun id sub hi => by
  rcases k.m id sub (h.kn id hi) with e | e
  ·exact .inl e
  ·rw [e]; exact h.m id sub hi
 new := fun b hb => by
  rcases k.new b hb with e | e
  ·exact h.new b e
  ·exact .inr (Nat.le_trans h.size e)
 keep := fun b hb hn => by
  rw [k.keep b (Nat.lt_of_lt_of_le hb h.size) (fun hc => by
   rcases h.new b hc with e | e
   ·exact hn e
   ·omega)]
  exact h.keep b hb hn
 shape := fun b hb => (k.shape b (Nat.lt_of_lt_of_le hb h.size)).trans (h.shape b hb)
 os := k.os.trans h.os
 tape := k.tape.trans h.tape
 output := k.output.trans h.output
theorem nameIds_pre {nm : Nat → Id} : ∀ (ids : List Id) (k : Nat) (N : Names), ∃ M, (nameIds σ nm k ids N).2 = N ++ M
 | [], _, N => ⟨[], by simp [nameIds]⟩
 | i :: r, k, N => by
  simp only [nameIds]
  split
  ·exact nameIds_pre r k N
  ·obtain ⟨M, h⟩ := nameIds_pre r (k + 1) (N ++ [(i, nm k)])
   exact ⟨(i, nm k) :: M, by rw [h]; simp⟩
theorem collect_pre {nm : Nat → Id} (ids : List Id) (N : Names) : ∃ M, (collect σ nm ids N).2 = N ++ M := by
 unfold collect
 obtain ⟨M1, h1⟩ := nameIds_pre (σ := σ) (nm := nm) ids 0 N
 obtain ⟨M2, h2⟩ := nameIds_pre (σ := σ) (nm := nm) (boxRefs σ (nameIds σ nm 0 ids N).2) (nameIds σ nm 0 ids N).1 (nameIds σ nm 0 ids N).2
 obtain ⟨M3, h3⟩ := nameIds_pre (σ := σ) (nm := nm) (boxRefs σ (nameIds σ nm (nameIds σ nm 0 ids N).1 (boxRefs σ (nameIds σ nm 0 ids N).2) (nameIds σ nm 0 ids N).2).2)
  (nameIds σ nm (nameIds σ nm 0 ids N).1 (boxRefs σ (nameIds σ nm 0 ids N).2) (nameIds σ nm 0 ids N).2).1 (nameIds σ nm (nameIds σ nm 0 ids N).1 (boxRefs σ (nameIds σ nm 0 ids N).2) (nameIds σ nm 0 ids N).2).2
 refine ⟨M1 ++ (M2 ++ M3), h3.trans ?_⟩
 rw [h2, h1, List.append_assoc, List.append_assoc]
theorem headIds_pre {ts : List AV} : ∀ (H : List (Nat × Option Nat)) (N : Names), ∃ M, headIds ts σ H N = N ++ M
 | [], N => ⟨[], by simp [headIds]⟩
 | (t, o) :: r, N => by
  simp only [headIds]
  obtain ⟨M1, h1⟩ := collect_pre (σ := σ) (nm := .h t) ((ts.getD t .junk).refs) N
  obtain ⟨M2, h2⟩ := headIds_pre (ts := ts) r (collect σ (.h t) ((ts.getD t .junk).refs) N).2
  exact ⟨M1 ++ M2, by rw [h2, h1, List.append_assoc]⟩
theorem lentNames_mem {i : Nat} : ∀ (σ : Store), σ.has (.l i) = true → (.l i, .l i) ∈ lentNames σ
 | [], h => by simp [Store.has] at h
 | (j, b) :: r, h => by
  simp only [Store.has] at h
  by_cases e : j = .l i
  ·subst e
   simp [lentNames]
  ·rw [if_neg e] at h
   have := lentNames_mem r h
   cases j <;> simp only [lentNames] <;> first | exact this | exact List.mem_cons_of_mem _ this
theorem get_app {τ : Store} {j i : Id} {b : Option Blk} (h : τ.has i = false) : (τ ++ [(i, b)]).get? j = if j = i then b else τ.get? j := by
 induction τ with
 | nil =>
  simp only [List.nil_append, Store.get?]
  by_cases e : j = i
  ·subst e; simp
  ·rw [if_neg (fun h => e h.symm), if_neg e]
 | cons p r ih =>
  obtain ⟨k, b'⟩ := p
  simp only [Store.has] at h
  split at h
  ·cases h
  ·rename_i hk
   simp only [List.cons_append, Store.get?]
   by_cases e : j = i
   ·subst e
    rw [if_neg hk, ih h, if_pos rfl, if_pos rfl]
   ·rw [ih h, if_neg e, if_neg e]
theorem has_app {τ : Store} {j i : Id} {b : Option Blk} : (τ ++ [(i, b)]).has j = true ↔ τ.has j = true ∨ j = i := by
 induction τ with
 | nil =>
  simp only [List.nil_append, Store.has]
  by_cases e : i = j
  ·subst e; simp
  ·rw [if_neg e]; simp; exact fun h => e h.symm
 | cons p r ih =>
  obtain ⟨k, b'⟩ := p
  simp only [List.cons_append, Store.has]
  split
  ·simp
  ·exact ih
theorem has_mem {τ : Store} {i : Id} : τ.has i = true ↔ i ∈ τ.map (·.1) := by
 induction τ with
 | nil => simp [Store.has]
 | cons p r ih =>
  obtain ⟨k, b'⟩ := p
  simp only [Store.has, List.map_cons, List.mem_cons]
  split
  ·rename_i h; subst h; simp
  ·rename_i h; rw [ih]; exact ⟨.inr, fun h' => h'.elim (fun e => absurd e.symm h) id⟩
theorem mat_run : ∀ (mat : Store) (τ : Store) (c : Cx), (∀ p, p ∈ mat → ∃ e n, p.2 = some ⟨true, true, n, e, []⟩) → ((τ ++ mat).map (·.1)).Nodup → (∀ p, p ∈ mat → ∀ i, p.1 ≠ .l i) → Rel G c τ w →
  ∃ c', Rel G c' (τ ++ mat) w ∧ Ext c w c' w ∧ (∀ b, c'.at_ b → c.at_ b) ∧ (∀ j, c.kn j → ∀ sub, c'.m (j, sub) = c.m (j, sub)) ∧ ∀ p, p ∈ mat → c'.m (p.1, none) = some none ∧ c'.kn p.1
 | [], τ, c, _, _, _, hR => ⟨c, by simpa using hR, Ext.refl c w, fun _ h => h, fun _ _ _ => rfl, by simp⟩
 | (i, b) :: r, τ, c, hm, hn, hl, hR => by
  obtain ⟨e, nest, rfl⟩ := hm (i, b) (by simp)
  have hi : τ.has i = false := by
   rw [← Bool.not_eq_true, has_mem]
   rw [List.map_append, List.nodup_append] at hn
   intro h
   exact hn.2.2 i h i (by simp) rfl
  have hki : ¬ c.kn i := fun h => by rw [hR.kn, hi] at h; cases h
  let new : Option Nat → Option (Option (Nat × Nat × Nat)) := fun s => match s with | none => some none | some _ => none
  have hE : Ext c w (c.move (fun _ => False) i new) w := Ext.move (Frame'.refl c w) hki (by
   intro sub b sh e hn
   cases sub <;> simp only [new] at hn <;> cases hn)
  have h0 : (c.move (fun _ => False) i new).m (i, none) = some none := move_same _ _ _ _
  have hR' : Rel G (c.move (fun _ => False) i new) (τ ++ [(i, some ⟨true, true, nest, e, []⟩)]) w := by
   refine Rel.move hR (Frame'.refl c w) (blk := ⟨true, true, nest, e, []⟩) hki ?_ ?_ ?_ (fun j => has_app) (by rw [get_app hi, if_pos rfl]) (fun _ _ h => h.elim) (fun j hj _ => by rw [get_app hi, if_neg hj]) (fun _ _ _ _ _ _ _ => rfl) (.inl ⟨h0, rfl, rfl⟩)
   ·intro sub b sh e hn
    cases sub <;> simp only [new] at hn <;> cases hn
   ·intro s s' b sh e sh' e' hn
    cases s <;> simp only [new] at hn <;> cases hn
   ·intro p hp; exact absurd rfl hp
  obtain ⟨c', h1, h2, h3, hx, h4⟩ := mat_run r (τ ++ [(i, some ⟨true, true, nest, e, []⟩)]) _ (fun p hp => hm p (List.mem_cons_of_mem _ hp)) (by simpa using hn) (fun p hp => hl p (List.mem_cons_of_mem _ hp)) hR'
  refine ⟨c', by simpa using h1, hE.trans h2, fun b hb => ?_, fun j hj sub => ?_, fun p hp => ?_⟩
  ·obtain ⟨⟨j, s⟩, sh, e', hk⟩ := h3 b hb
   by_cases hj : j = i
   ·subst hj
    rw [move_same] at hk
    cases s <;> simp only [new] at hk <;> cases hk
   ·rw [move_ne _ _ _ hj s (fun h => h)] at hk
    exact ⟨_, _, _, hk⟩
  ·have hji : j ≠ i := fun e => hki (e ▸ hj)
   rw [hx j (.inl hj), move_ne _ _ _ hji sub (fun h => h)]
  ·rcases List.mem_cons.1 hp with rfl | hp
   ·have hkn : (c.move (fun _ => False) i new).kn i := .inr rfl
    exact ⟨by rw [hx i hkn]; exact h0, h2.kn i hkn⟩
   ·exact h4 p hp
end
end Go.Ev
namespace Go.Ev
open Go Go.RowKit
section
variable {G : Cfg} {c c' : Cx} {σ σ' : Store} {w w' : World} {P : Program}
theorem cell_run (hR : Rel G c σ w) {id : Id} {b : Blk} (hg : σ.get? id = some b) (ha : b.arr = false) {p : Nat} {x y : AV} (hp : b.cells[p]? = some x) (hv : ∀ v, VR c w x v → VR c w y v) : Rel G c (σ.put id { b with cells := b.cells.set p y }) w := by
 refine ⟨hR.inj, hR.lt, fun j => ?_, fun j sub hm => ?_, fun j blk hj => ?_, hR.sS, hR.base, hR.glob, hR.know⟩
 ·rw [hR.kn, has_put]
  constructor
  ·exact .inl
  ·rintro (h | h)
   ·exact h
   ·subst h; exact has_of_get hg
 ·obtain ⟨blk, k1, k2⟩ := hR.dom j sub hm
  by_cases e : j = id
  ·subst e
   rw [hg] at k1
   cases k1
   refine ⟨_, get_put_same _ _ _, fun q hq => ?_⟩
   have := (k2 q hq).1
   rw [ha] at this
   cases this
  ·exact ⟨blk, by rw [get_put_ne _ _ e]; exact k1, k2⟩
 ·by_cases e : j = id
  ·subst e
   rw [get_put_same] at hj
   cases hj
   rcases hR.blk j b hg with h | ⟨bk, sh, h1, h2, h3, h4⟩
   ·rw [ha] at h; cases h.2.2
   ·refine .inr ⟨bk, sh, h1, h2, h3, fun q z hz => ?_⟩
    simp only at hz
    rw [List.getElem?_set] at hz
    split at hz
    ·rename_i hpq
     subst hpq
     split at hz
     ·cases hz
      obtain ⟨v, k1, k2, k3⟩ := h4 p x hp
      rw [ha] at k3
      refine ⟨v, k1, k2, ?_⟩
      rw [if_neg (by simp)] at k3
      rw [if_neg (by simp [ha])]
      exact hv v k3
     ·cases hz
    ·obtain ⟨v, k1, k2, k3⟩ := h4 q z hz
     refine ⟨v, k1, k2, ?_⟩
     rw [show ({ b with cells := b.cells.set p y } : Blk).arr = b.arr from rfl]
     rw [ha] at k3 ⊢
     exact k3
  ·rw [get_put_ne _ _ e] at hj
   exact hR.blk j blk hj
theorem mat1_run (hR : Rel G c σ w) {i : Id} {e : Nat} {nest : Bool} (hi : σ.has i = false) : ∃ c', Rel G c' (σ ++ [(i, some ⟨true, true, nest, e, []⟩)]) w ∧ Ext c w c' w ∧ ∀ v, VR c' w .emp v → VR c' w (.own i none 0 0 0) v := by
 have hki : ¬ c.kn i := fun h => by rw [hR.kn, hi] at h; cases h
 let new : Option Nat → Option (Option (Nat × Nat × Nat)) := fun s => match s with | none => some none | some _ => none
 have hE : Ext c w (c.move (fun _ => False) i new) w := Ext.move (Frame'.refl c w) hki (by
  intro sub b sh e hn
  cases sub <;> simp only [new] at hn <;> cases hn)
 have h0 : (c.move (fun _ => False) i new).m (i, none) = some none := move_same _ _ _ _
 refine ⟨c.move (fun _ => False) i new, ?_, hE, fun v hv => ?_⟩
 ·refine Rel.move hR (Frame'.refl c w) (blk := ⟨true, true, nest, e, []⟩) hki ?_ ?_ ?_ (fun j => has_app) (by rw [get_app hi, if_pos rfl]) (fun _ _ h => h.elim) (fun j hj _ => by rw [get_app hi, if_neg hj]) (fun _ _ _ _ _ _ _ => rfl) (.inl ⟨h0, rfl, rfl⟩)
  ·intro sub b sh e hn
   cases sub <;> simp only [new] at hn <;> cases hn
  ·intro s s' b sh e sh' e' hn
   cases s <;> simp only [new] at hn <;> cases hn
  ·intro p hp; exact absurd rfl hp
 ·obtain ⟨A, rfl⟩ := VR_emp.1 hv
  rw [VR_own]
  refine ⟨.inr rfl, A, 0, rfl, Nat.le_refl _, Nat.le_refl _, fun _ => rfl, fun _ => rfl, fun b sh e hm => ?_⟩
  rw [h0] at hm
  cases hm
theorem boxMat1_run (hR : Rel G c σ w) (ts : List AV) (slot p e : Nat) : ∃ c', Rel G c' (boxMat1 ts σ slot p e) w ∧ Ext c w c' w := by
 unfold boxMat1
 split
 ·split
  ·rename_i b hg
   split
   ·rename_i hc
    simp only [Bool.and_eq_true, Bool.not_eq_true'] at hc
    split
    ·rename_i hp
     obtain ⟨c', h1, h2, h3⟩ := mat1_run (e := e % 1000) (nest := Nat.ble 1000 e) hR hc.2
     refine ⟨c', cell_run h1 ?_ hc.1 hp h3, h2⟩
     rw [get_app hc.2, if_neg]
     ·exact hg
     ·intro he
      rw [he] at hg
      rw [has_of_get hg] at hc
      cases hc.2
    ·exact ⟨c, hR, Ext.refl c w⟩
   ·exact ⟨c, hR, Ext.refl c w⟩
  ·exact ⟨c, hR, Ext.refl c w⟩
 ·exact ⟨c, hR, Ext.refl c w⟩
theorem boxMats_run {ts : List AV} : ∀ (H : List (Nat × Option Nat)) (σ : Store) (c : Cx), Rel G c σ w → ∃ c', Rel G c' (boxMats ts H σ) w ∧ Ext c w c' w
 | [], σ, c, hR => ⟨c, hR, Ext.refl c w⟩
 | (t, none) :: r, σ, c, hR => by
  simp only [boxMats]
  exact boxMats_run r σ c hR
 | (t, some e) :: r, σ, c, hR => by
  simp only [boxMats]
  cases Nat.ble 1000000 t with
  | false => exact boxMats_run r σ c hR
  | true =>
   obtain ⟨c1, h1, h2⟩ := boxMat1_run hR ts ((t - 1000000) / 1000) ((t - 1000000) % 1000) e
   obtain ⟨c2, k1, k2⟩ := boxMats_run r _ c1 h1
   exact ⟨c2, k1, h2.trans k2⟩
theorem mv1_run (hR : Rel G c σ w) {i j : Id} {b : Blk} (hb : σ.get? i = some b) (ha : b.arr = true) (hj : σ.has j = false) :
  ∃ c', Rel G c' (σ.del i ++ [(j, some b)]) w ∧ Ext c w c' w ∧ ∀ off n cap v, VR c w (.own i none off n cap) v → VR c' w (.own j none off n cap) v := by
 have hkj : ¬ c.kn j := fun h => by rw [hR.kn, hj] at h; cases h
 have hij : i ≠ j := fun h => by rw [← h, has_of_get hb] at hj; cases hj
 have hdj : (σ.del i).has j = false := by rw [has_del]; exact hj
 have hE : Ext c w (c.move (fun x => x = i) j fun s => c.m (i, s)) w := Ext.move (Frame'.refl c w) hkj fun sub b sh e h => .inl ⟨_, _, _, h⟩
 refine ⟨c.move (fun x => x = i) j fun s => c.m (i, s), ?_, hE, fun off n cap v hv => ?_⟩
 ·refine Rel.move hR (Frame'.refl c w) (blk := b) hkj (fun sub b sh e h => .inr ⟨i, sub, sh, e, rfl, h⟩) (fun s s' b sh e sh' e' h h' => congrArg Prod.snd (hR.inj _ _ _ _ _ _ _ h h')) (fun p hp => ?_)
   (fun x => by rw [has_app, has_del]) (by rw [get_app hdj, if_pos rfl]) (fun x hx hD => by rw [get_app hdj, if_neg hx, hD, get_del_same]) (fun x hx hD => by rw [get_app hdj, if_neg hx, get_del_ne _ hD]) (fun _ _ _ _ _ _ _ => rfl) ?_
  ·obtain ⟨bk, k1, k2⟩ := hR.dom i (some p) hp
   rw [hb] at k1
   cases k1
   exact k2 p rfl
  ·have h := BlkOk_ren (N := []) (c' := c.move (fun x => x = i) j fun s => c.m (i, s)) (j := j) (fr' := b.fr) (fun id j h => by simp [Names.to] at h) (.inr fun b hb => hE.ok hb) (fun sub => move_same _ _ _ _) (fun hf sub b' sh e hm => fr_base hR hb hf sub b' sh e hm) (hR.blk i b hb)
   have e : ({ b.ren [] with fr := b.fr } : Blk) = b := by cases b; simp only at ha; subst ha; rfl
   rw [e] at h
   exact h
 ·rw [VR_own] at hv ⊢
  obtain ⟨_, A, k, q1, q2, q3, q4, q5, q6⟩ := hv
  exact ⟨.inr rfl, A, k, q1, q2, q3, q4, fun hm => q5 (by rwa [move_same] at hm), fun b sh e hm => q6 b sh e (by rwa [move_same] at hm)⟩
theorem matOne_run (hR : Rel G c σ w) (H : List (Nat × Option Nat)) (p : Nat) (x : AV) : ∃ c', Rel G c' (matOne H p x σ).2 w ∧ Ext c w c' w ∧ ∀ v, VR c w x v → VR c' w (matOne H p x σ).1 v := by
 unfold matOne
 split
 ·split
  ·split
   ·exact ⟨c, hR, Ext.refl c w, fun _ h => h⟩
   ·rename_i e _ hh
    obtain ⟨c1, h1, h2, h3⟩ := mat1_run (e := e % 1000) (nest := Nat.ble 1000 e) hR (by simpa using hh)
    exact ⟨c1, h1, h2, fun v hv => h3 v (hR.vr h2 hv)⟩
  ·exact ⟨c, hR, Ext.refl c w, fun _ h => h⟩
 ·split
  ·rename_i b _ hb
   split
   ·rename_i hc
    simp only [Bool.and_eq_true, Bool.not_eq_true'] at hc
    obtain ⟨c1, h1, h2, h3⟩ := mv1_run hR hb hc.1 hc.2
    exact ⟨c1, h1, h2, fun v hv => h3 _ _ _ v hv⟩
   ·exact ⟨c, hR, Ext.refl c w, fun _ h => h⟩
  ·exact ⟨c, hR, Ext.refl c w, fun _ h => h⟩
 ·exact ⟨c, hR, Ext.refl c w, fun _ h => h⟩
theorem matL_run {H : List (Nat × Option Nat)} : ∀ (cs : List AV) (p : Nat) (σ : Store) (c : Cx), Rel G c σ w → ∃ c', Rel G c' (matL H p cs σ).2 w ∧ Ext c w c' w ∧ ∀ vs, VRt c w cs vs → VRt c' w (matL H p cs σ).1 vs
 | [], p, σ, c, hR => ⟨c, hR, Ext.refl c w, fun _ h => h⟩
 | x :: r, p, σ, c, hR => by
  obtain ⟨c1, h1, h2, h3⟩ := matOne_run hR H p x
  obtain ⟨c2, k1, k2, k3⟩ := matL_run (H := H) r (p + 1) _ c1 h1
  refine ⟨c2, k1, h2.trans k2, fun vs hv => ?_⟩
  cases vs with
  | nil => simp [VRt] at hv
  | cons v q =>
   simp only [VRt] at hv
   simp only [matL, VRt]
   exact ⟨h1.vr k2 (h3 v hv.1), k3 q (hR.vrt h2 hv.2)⟩
theorem matV_run (hR : Rel G c σ w) (H : List (Nat × Option Nat)) (p : Nat) (x : AV) : ∃ c', Rel G c' (matV H p x σ).2 w ∧ Ext c w c' w ∧ ∀ v, VR c w x v → VR c' w (matV H p x σ).1 v := by
 unfold matV
 split
 ·rename_i cs
  obtain ⟨c1, h1, h2, h3⟩ := matL_run (H := H) cs p σ c hR
  refine ⟨c1, h1, h2, fun v hv => ?_⟩
  simp only [VR] at hv ⊢
  obtain ⟨vs, e, k1, k2⟩ := hv
  exact ⟨vs, e, h3 _ k1, k2⟩
 ·obtain ⟨c1, h1, h2, h3⟩ := matOne_run hR H p x
  exact ⟨c1, h1, h2, h3⟩
theorem matVs_run {H : List (Nat × Option Nat)} : ∀ (cs : List AV) (p : Nat) (σ : Store) (c : Cx), Rel G c σ w → ∃ c', Rel G c' (matVs H p cs σ).2 w ∧ Ext c w c' w ∧ ∀ vs, VRt c w cs vs → VRt c' w (matVs H p cs σ).1 vs
 | [], p, σ, c, hR => ⟨c, hR, Ext.refl c w, fun _ h => h⟩
 | x :: r, p, σ, c, hR => by
  obtain ⟨c1, h1, h2, h3⟩ := matV_run hR H p x
  obtain ⟨c2, k1, k2, k3⟩ := matVs_run (H := H) r (p + 100) _ c1 h1
  refine ⟨c2, k1, h2.trans k2, fun vs hv => ?_⟩
  cases vs with
  | nil => simp [VRt] at hv
  | cons v q =>
   simp only [VRt] at hv
   simp only [matVs, VRt]
   exact ⟨h1.vr k2 (h3 v hv.1), k3 q (hR.vrt h2 hv.2)⟩
theorem matT_run (hR : Rel G c σ w) (H : List (Nat × Option Nat)) (x : AV) : ∃ c', Rel G c' (matT H x σ).2 w ∧ Ext c w c' w ∧ ∀ v, VR c w x v → VR c' w (matT H x σ).1 v := by
 unfold matT
 split
 ·rename_i cs
  obtain ⟨c1, h1, h2, h3⟩ := matVs_run (H := H) cs 0 σ c hR
  refine ⟨c1, h1, h2, fun v hv => ?_⟩
  simp only [VR] at hv ⊢
  obtain ⟨vs, e, k1⟩ := hv
  exact ⟨vs, e, h3 _ k1⟩
 ·exact matV_run hR H 0 x
end
end Go.Ev
namespace Go.Ev
open Go Go.RowKit
section
variable {G : Cfg} {c c' : Cx} {σ σ' : Store} {w w' : World} {P : Program}
theorem Blk.ren_fr (N : Names) (b : Blk) : { b.ren N with fr := b.fr } = b.ren N := by
 unfold Blk.ren
 split <;> rfl
def headT (ts : List AV) (N : Names) (H : List (Nat × Option Nat)) (i : Nat) : AV := match H.find? (·.1 == i) with
 | some (_, m) => match ts.getD i .junk, m with
  | .emp, some _ => .own (.h i 0) none 0 0 0
  | x, _ => x.ren N
 | none => .junk
theorem headTs_get {ts : List AV} {N : Names} {H : List (Nat × Option Nat)} : ∀ (n i j : Nat), (headTs ts N H i n)[j]? = if j < n then some (headT ts N H (i + j)) else none
 | 0, i, j => by simp [headTs]
 | n + 1, i, 0 => by
  simp only [headTs, List.getElem?_cons_zero]
  rw [if_pos (by omega)]
  rfl
 | n + 1, i, j + 1 => by
  simp only [headTs, List.getElem?_cons_succ]
  rw [headTs_get n (i + 1) j, show i + 1 + j = i + (j + 1) by omega]
  by_cases h : j < n
  ·rw [if_pos h, if_pos (by omega)]
  ·rw [if_neg h, if_neg (by omega)]
theorem headTs_length {ts : List AV} {N : Names} {H : List (Nat × Option Nat)} : ∀ (n i : Nat), (headTs ts N H i n).length = n
 | 0, _ => rfl
 | n + 1, i => by simp only [headTs, List.length_cons, headTs_length n]
theorem headMat_mem {ts : List AV} : ∀ (H : List (Nat × Option Nat)) (p : Id × Option Blk), p ∈ headMat ts H → (∃ e n, p.2 = some ⟨true, true, n, e, []⟩) ∧ ∃ t, p.1 = .h t 0
 | [], p, h => by simp [headMat] at h
 | (t, m) :: r, p, h => by
  cases m with
  | none => simp only [headMat] at h; exact headMat_mem r p h
  | some e =>
   simp only [headMat] at h
   split at h
   ·rcases List.mem_cons.1 h with rfl | h
    ·exact ⟨⟨e % 1000, Nat.ble 1000 e, rfl⟩, t, rfl⟩
    ·exact headMat_mem r p h
   ·exact headMat_mem r p h
theorem headMat_has {ts : List AV} {t e : Nat} (he : ts.getD t .junk = .emp) : ∀ (H : List (Nat × Option Nat)), (t, some e) ∈ H → ∃ p, p ∈ headMat ts H ∧ p.1 = .h t 0
 | [], h => by simp at h
 | (t', m) :: r, h => by
  rcases List.mem_cons.1 h with h | h
  ·cases h
   refine ⟨(.h t 0, some ⟨true, true, Nat.ble 1000 e, e % 1000, []⟩), ?_, rfl⟩
   simp only [headMat, he]
   simp
  ·obtain ⟨p, h1, h2⟩ := headMat_has he r h
   refine ⟨p, ?_, h2⟩
   cases m with
   | none => simp only [headMat]; exact h1
   | some e' =>
    simp only [headMat]
    split
    ·exact List.mem_cons_of_mem _ h1
    ·exact h1
theorem head1_run {s s' : St} {vs : List Value} {H : List (Nat × Option Nat)} (hR : Rel G c s.σ w) (ht : VRt c w s.ts vs) (h : head1 H s = some s') :
  ∃ c', Rel G c' s'.σ w ∧ VRt c' w s'.ts vs ∧ Fr c w c' w := by
 unfold head1 at h
 obtain ⟨M, hM⟩ := headIds_pre (σ := s.σ) (ts := s.ts) H (lentNames s.σ)
 generalize headIds s.ts s.σ H (lentNames s.σ) = N at h hM
 unfold headAt at h
 split at h
 ·rename_i hc
  cases h
  rw [Bool.and_eq_true] at hc
  obtain ⟨hN, hnd⟩ := hc
  have hnd := nodupB_iff.1 hnd
  have hok : ∀ b, c.ok w b → (c.ren N c.S c.base).ok w b := by
   intro b hb
   rcases hb with hb | ⟨h1, h2, h3⟩
   ·exact .inl hb
   ·refine .inr ⟨h1, h2, ?_⟩
    rintro ⟨⟨j, sub⟩, sh, e, hk⟩
    obtain ⟨a, ha, e1⟩ := ren_some (by rw [hk]; simp)
    rw [e1] at hk
    exact h3 ⟨_, _, _, hk⟩
  have hR1 : Rel G (c.ren N c.S c.base) (s.σ.ren N N) w := by
   refine Rel.ren hR hN (fr := fun f => f) (fun b hb => ⟨(hR.sS b hb).1, fun id j sub sh e _ hm => (hR.sS b hb).2 ⟨_, _, _, hm⟩⟩) hR.base hok (fun _ h => h) (fun f hf => ⟨Nat.le_refl _, hf⟩) (fun j => ren_has N j) (fun j => ?_)
   rw [ren_get]
   congr 1
   funext a
   congr 1
   funext b
   exact (Blk.ren_fr N b).symm
  obtain ⟨c', h1, h2, h3, h4, h5⟩ := mat_run (headMat s.ts H) (s.σ.ren N N) _ (fun p hp => (headMat_mem H p hp).1) hnd (fun p hp i e => by
   obtain ⟨t, ht⟩ := (headMat_mem H p hp).2
   rw [ht] at e
   cases e) hR1
  have hk : ∀ id j, N.to id = some j → c.kn id → (c.ren N c.S c.base).kn j ∧ ∀ sub, (c.ren N c.S c.base).m (j, sub) = none ∨ (c.ren N c.S c.base).m (j, sub) = c.m (id, sub) := by
   intro id j hj _
   rw [to_fro hN] at hj
   exact ⟨by simp only [Cx.ren, hj, Option.isSome], fun sub => .inr (ren_m hj sub)⟩
  refine ⟨c', h1, ?_, ?_⟩
  ·have hl := VRt_length ht
   refine VRt_mk (by rw [headTs_length]; exact hl) fun j x v hx hv => ?_
   rw [headTs_get] at hx
   split at hx
   ·rename_i hj
    cases hx
    rw [Nat.zero_add]
    obtain ⟨v', hv', hxv⟩ := VRt_get ht j _ (List.getElem?_eq_getElem hj)
    rw [hv] at hv'
    cases hv'
    have hgd : s.ts.getD j .junk = s.ts[j] := by simp [List.getD, List.getElem?_eq_getElem hj]
    unfold headT
    split
    ·rename_i t m hf
     have hmem := List.mem_of_find?_eq_some hf
     have hti := List.find?_some hf
     simp only [beq_iff_eq] at hti
     subst hti
     split
     ·rename_i e he
      obtain ⟨p, hp, hp1⟩ := headMat_has he H hmem
      obtain ⟨k1, k2⟩ := h5 p hp
      rw [hp1] at k1 k2
      rw [← hgd, he] at hxv
      obtain ⟨A, rfl⟩ := VR_emp.1 hxv
      rw [VR_own]
      refine ⟨k2, A, 0, rfl, Nat.le_refl _, Nat.le_refl _, fun _ => rfl, fun _ => rfl, fun b sh e hm => ?_⟩
      rw [k1] at hm
      cases hm
     ·rw [hgd]
      exact hR1.vr h2 (VR_ren hk _ _ (.inr hok) hxv)
    ·exact VR_junk
   ·cases hx
  ·have hb : c'.base = c.base := h2.base
   refine ⟨h2.base, h2.S, h2.size, fun i hi => ?_, fun i sub hi => ?_, fun b hb => ?_, fun _ _ _ => rfl, fun _ _ => rfl, rfl, rfl, rfl⟩
   all_goals first
    | (
     have hto : N.to (.l i) = some (.l i) := by
      refine to_of_mem (ok_spec hN).1 ?_
      rw [hM]
      exact List.mem_append.2 (.inl (lentNames_mem _ ((hR.kn _).1 hi)))
     have hfro := (to_fro hN).1 hto
     have hkn : (c.ren N c.S c.base).kn (.l i) := by simp only [Cx.ren, hfro, Option.isSome]
     first
      | exact h2.kn _ hkn
      | exact .inr (by rw [h4 _ hkn, ren_m hfro]))
    | (
     obtain ⟨⟨j, s'⟩, sh, e, hk'⟩ := h3 b hb
     obtain ⟨a, ha, e1⟩ := ren_some (by rw [hk']; simp)
     rw [e1] at hk'
     exact .inl ⟨_, _, _, hk'⟩)
 ·cases h
theorem head_run {s s' : St} {vs : List Value} {H : List (Nat × Option Nat)} (hR : Rel G c s.σ w) (ht : VRt c w s.ts vs) (h : head H s = some s') :
  ∃ c', Rel G c' s'.σ w ∧ VRt c' w s'.ts vs ∧ Fr c w c' w := by
 obtain ⟨c1, h1, h2⟩ := boxMats_run (ts := s.ts) H s.σ c hR
 obtain ⟨c2, k1, k2, k3⟩ := head1_run (s := ⟨s.ts, boxMats s.ts H s.σ⟩) h1 (hR.vrt h2 ht) h
 exact ⟨c2, k1, k2, (Fr.of h2).trans k3⟩
end
end Go.Ev
namespace Go.Ev
open Go Go.RowKit
section
variable {G : Cfg} {c c' : Cx} {σ σ' : Store} {w w' : World} {P : Program}
theorem VRt_set {xs : List AV} {vs : List Value} {x : AV} {v : Value} (h : VRt c w xs vs) (hx : VR c w x v) (d : Nat) : VRt c w (xs.set d x) (vs.set d v) := by
 have hl := VRt_length h
 refine VRt_mk (by simpa using hl) fun j y u hy hu => ?_
 by_cases hj : d = j
 ·subst hj
  rw [List.getElem?_set_self (by have := (List.getElem?_eq_some_iff.1 hy).1; simpa using this)] at hy
  rw [List.getElem?_set_self (by have := (List.getElem?_eq_some_iff.1 hu).1; simpa using this)] at hu
  cases hy; cases hu; exact hx
 ·rw [List.getElem?_set_ne hj] at hy hu
  obtain ⟨u', h1, h2⟩ := VRt_get h j y hy
  rw [hu] at h1
  cases h1
  exact h2
theorem VRt_put {ts : List AV} {a : Act} {x : AV} {v : Value} (h : VRt c w ts a.tmps.toList) (hx : VR c w x v) (d : Option Tmp) : VRt c w (putT ts d x) (a.put d v).tmps.toList := by
 cases d with
 | none => exact h
 | some d => simp only [putT, Act.put, Array.toList_setIfInBounds]; exact VRt_set h hx d
theorem put_defers (a : Act) (d : Option Tmp) (v : Value) : (a.put d v).defers = a.defers := by cases d <;> rfl
theorem wanted_run {ops : Array Oper} {ts : List AV} {a : Act} {o : Oper} {b : Bool} (h : wantedA ops.toList ts o = some b) (ht : VRt c w ts a.tmps.toList) : Region.wanted o (yielded ops a.tmps) = b := by
 unfold wantedA at h
 unfold Region.wanted
 split at h
 ·rename_i hg
  cases h
  rw [hg]
 ·rename_i j want hg
  rw [hg]
  simp only
  split at h
  ·cases h
  ·rename_i d hd
   have hv := VR_getD ht d
   rw [Array.getElem?_toList] at hd
   unfold yielded
   rw [hd, Option.bind_some]
   split at h
   ·rename_i q hq
    cases h
    rw [hq, VR_sc] at hv
    have : a.tmps[d]? = some (.bool q) := by
     rw [Array.getD_eq_getD_getElem?] at hv
     cases hh : a.tmps[d]? with
     | none => rw [hh] at hv; simp [undef] at hv
     | some u => rw [hh] at hv; simp at hv; rw [hv]
    rw [this]
    cases q <;> cases want <;> rfl
   ·rename_i q hq
    cases h
    rw [hq, VR_sc] at hv
    rw [Array.getD_eq_getD_getElem?] at hv
    cases hh : a.tmps[d]? with
    | none => rfl
    | some u => rw [hh] at hv; simp at hv; subst hv; rfl
   ·cases h
def OpsOk (G : Cfg) (C : Oracle) : Prop := ∀ (f : FuncId) (o : Oper) (ts : List AV) (σ : Store) (e : Eff), evOp G C f ts σ o = some e →
 ∀ (c : Cx) (a : Act) (w : World), Rel G c σ w → VRt c w ts a.tmps.toList → ∀ (K : Act → World → Prop) (Q : Exit → Act → World → Prop),
  (∀ c' w' v, Rel G c' e.σ w' → Ext c w c' w' → VR c' w' e.val v → K (a.put o.dst v) w') → o.wp G.P a w K Q
theorem wp_of_OpOk {o : Oper} {a : Act} {e : Eff} (h : OpOk G c w ((execOp a.eval o).run G.P w) e) {K : Act → World → Prop} {Q : Exit → Act → World → Prop}
  (hK : ∀ c' w' v, Rel G c' e.σ w' → Ext c w c' w' → VR c' w' e.val v → K (a.put o.dst v) w') : o.wp G.P a w K Q := by
 obtain ⟨c', w', nx, h1, h2, h3, h4⟩ := h
 unfold Oper.wp
 rw [h1]
 rcases h4 with ⟨v, rfl, h4⟩ | ⟨rfl, h4⟩
 ·exact hK c' w' v h2 h3 h4
 ·exact hK c' w' undef h2 h3 (by rw [h4]; exact VR_sc.2 rfl)
theorem evOps_run {C : Oracle} (hC : OpsOk G C) {f : FuncId} {ops : Array Oper} {Q : Exit → Act → World → Prop} : ∀ (l : List Oper) (s s' : St) (tr : List (List Id × List Id)), evOps G C f ops.toList l s = some (s', tr) →
  ∀ (c : Cx) (a : Act) (w : World), Rel G c s.σ w → VRt c w s.ts a.tmps.toList →
   (∀ c' a' w', Rel G c' s'.σ w' → VRt c' w' s'.ts a'.tmps.toList → Ext c w c' w' → a'.defers = a.defers → Q .normal a' w') → wpList G.P ops Q l a w
 | [], s, s', tr, h, c, a, w, hR, ht, hQ => by
  simp only [evOps] at h
  cases h
  exact hQ c a w hR ht (Ext.refl c w) rfl
 | o :: r, s, s', tr, h, c, a, w, hR, ht, hQ => by
  simp only [evOps] at h
  unfold wpList
  split at h
  ·rename_i hw
   rw [wanted_run hw ht, if_pos rfl]
   split at h
   ·rename_i e he
    split at h
    ·rename_i s2 tr2 hr
     cases h
     refine .inl (hC f o s.ts s.σ e he c a w hR ht _ _ fun c1 w1 v h1 h2 h3 => ?_)
     refine evOps_run hC r _ _ _ hr c1 _ w1 h1 (VRt_put (hR.vrt h2 ht) h3 o.dst) fun c2 a2 w2 k1 k2 k3 k4 => ?_
     exact hQ c2 a2 w2 k1 k2 (h2.trans k3) (by rw [k4, put_defers])
    ·cases h
   ·cases h
  ·rename_i hw
   rw [wanted_run hw ht, if_neg (by simp)]
   split at h
   ·rename_i s2 tr2 hr
    cases h
    refine evOps_run hC r _ _ _ hr c _ w hR (VRt_put ht (VR_sc.2 rfl) o.dst) fun c2 a2 w2 k1 k2 k3 k4 => ?_
    exact hQ c2 a2 w2 k1 k2 k3 (by rw [k4, put_defers])
   ·cases h
  ·cases h
def RegOk (G : Cfg) (C : Oracle) : Prop := ∀ (f : FuncId) (ops : Array Oper) (id : Nat) (draw : Bool) (s s' : St), evRegion G C f ops draw s = some s' →
 ∀ (c : Cx) (a : Act) (w : World), Rel G c s.σ w → VRt c w s.ts a.tmps.toList → ∀ (Q : Exit → Act → World → Prop),
  (∀ c' a' w', Rel G c' s'.σ w' → VRt c' w' s'.ts a'.tmps.toList → Fr c w c' w' → a'.defers = a.defers → Q .normal a' w') → (Code.region id ops draw).wp G.P Q a w
theorem evRegion_run {C : Oracle} (hC : OpsOk G C) {f : FuncId} {ops : Array Oper} {id : Nat} {s s' : St} (h : evRegion G C f ops false s = some s') {a : Act} (hR : Rel G c s.σ w) (ht : VRt c w s.ts a.tmps.toList) {Q : Exit → Act → World → Prop}
  (hQ : ∀ c' a' w', Rel G c' s'.σ w' → VRt c' w' s'.ts a'.tmps.toList → Fr c w c' w' → a'.defers = a.defers → Q .normal a' w') : (Code.region id ops false).wp G.P Q a w := by
 unfold evRegion at h
 simp only [Bool.false_eq_true, if_false] at h
 obtain ⟨⟨s2, tr⟩, he, h⟩ := Option.map_eq_some_iff.1 h
 cases h
 exact wp_region_list (evOps_run hC ops.toList s _ tr he c a w hR ht fun c' a' w' h1 h2 h3 h4 => hQ c' a' w' h1 h2 (Fr.of h3) h4)
def exOk : Ex → Exit → Prop
 | .normal, e => e = .normal
 | .exit i, e => e = .exit i
 | .ret, e => e = .ret
def LoopOk (G : Cfg) (L : LoopOracle) : Prop := ∀ (f : FuncId) (b : Code) (s : St) (ex : Ex) (s' : St), L f b s = some (ex, s') →
 ∀ (c : Cx) (a : Act) (w : World), Rel G c s.σ w → VRt c w s.ts a.tmps.toList → ∀ (Q : Exit → Act → World → Prop),
  (∀ c' a' w' e, exOk ex e → Rel G c' s'.σ w' → VRt c' w' s'.ts a'.tmps.toList → Fr c w c' w' → a'.defers = a.defers → Q e a' w') → (Code.loop b).wp G.P Q a w
theorem evCode_run {C : Oracle} {L : LoopOracle} (hC : RegOk G C) (hL : LoopOk G L) {f : FuncId} : ∀ (k : Code) (s : St) (ex : Ex) (s' : St), evCode G C L f k s = some (ex, s') →
 ∀ (c : Cx) (a : Act) (w : World), Rel G c s.σ w → VRt c w s.ts a.tmps.toList → ∀ (Q : Exit → Act → World → Prop),
  (∀ c' a' w' e, exOk ex e → Rel G c' s'.σ w' → VRt c' w' s'.ts a'.tmps.toList → Fr c w c' w' → a'.defers = a.defers → Q e a' w') → k.wp G.P Q a w := by
 intro k
 induction k with
 | skip =>
  intro s ex s' h c a w hR ht Q hQ
  unfold evCode at h; cases h
  exact wp_skip (hQ c a w _ rfl hR ht (Fr.refl c w) rfl)
 | label l =>
  intro s ex s' h c a w hR ht Q hQ
  unfold evCode at h; cases h
  exact wp_label (hQ c a w _ rfl hR ht (Fr.refl c w) rfl)
 | region id ops draw =>
  intro s ex s' h c a w hR ht Q hQ
  unfold evCode at h
  obtain ⟨s2, h2, he⟩ := Option.map_eq_some_iff.1 h
  cases he
  exact hC f ops id draw s _ h2 c a w hR ht Q fun c' a' w' k1 k2 k3 k4 => hQ c' a' w' _ rfl k1 k2 k3 k4
 | seq x y ihx ihy =>
  intro s ex s' h c a w hR ht Q hQ
  unfold evCode at h
  split at h
  ·rename_i s1 hx
   refine wp_seq (ihx s _ s1 hx c a w hR ht _ fun c1 a1 w1 e he k1 k2 k3 k4 => ?_)
   cases he
   exact ihy s1 ex s' h c1 a1 w1 k1 k2 Q fun c2 a2 w2 e2 he2 m1 m2 m3 m4 => hQ c2 a2 w2 e2 he2 m1 m2 (k3.trans m3) (m4.trans k4)
  ·rename_i hne
   refine wp_seq (ihx s ex s' h c a w hR ht _ fun c1 a1 w1 e he k1 k2 k3 k4 => ?_)
   cases ex with
   | normal => exact absurd h (hne _)
   | exit i => cases he; exact hQ c1 a1 w1 _ rfl k1 k2 k3 k4
   | ret => cases he; exact hQ c1 a1 w1 _ rfl k1 k2 k3 k4
 | cond q x y ihx ihy =>
  intro s ex s' h c a w hR ht Q hQ
  unfold evCode at h
  split at h
  ·rename_i b hb
   have hv := VR_opd hR ht q
   rw [hb, VR_sc] at hv
   refine wp_cond hv ?_
   cases b
   ·simp only [Bool.false_eq_true, if_false] at h ⊢
    exact ihy s ex s' h c a w hR ht Q hQ
   ·simp only [if_true] at h ⊢
    exact ihx s ex s' h c a w hR ht Q hQ
  ·cases h
 | block id b ih =>
  intro s ex s' h c a w hR ht Q hQ
  unfold evCode at h
  split at h
  ·rename_i i s1 hx
   refine wp_block (ih s _ s1 hx c a w hR ht _ fun c1 a1 w1 e he k1 k2 k3 k4 => ?_)
   cases he
   simp only [Exit.inBlock]
   split at h
   ·rename_i hi
    cases h
    rw [if_pos hi]
    exact hQ c1 a1 w1 _ rfl k1 k2 k3 k4
   ·rename_i hi
    cases h
    rw [if_neg hi]
    exact hQ c1 a1 w1 _ rfl k1 k2 k3 k4
  ·rename_i hne
   refine wp_block (ih s ex s' h c a w hR ht _ fun c1 a1 w1 e he k1 k2 k3 k4 => ?_)
   cases ex with
   | normal => cases he; exact hQ c1 a1 w1 _ rfl k1 k2 k3 k4
   | exit i => exact absurd h (hne _ _)
   | ret => cases he; exact hQ c1 a1 w1 _ rfl k1 k2 k3 k4
 | loop b _ =>
  intro s ex s' h c a w hR ht Q hQ
  unfold evCode at h
  obtain ⟨s1, h1, h2⟩ := Option.bind_eq_some_iff.1 h
  obtain ⟨c1, k1, k2, k3⟩ := head_run hR ht h1
  exact hL f b s1 ex s' h2 c1 a w k1 k2 Q fun c2 a2 w2 e2 he2 m1 m2 m3 m4 => hQ c2 a2 w2 e2 he2 m1 m2 (k3.trans m3) m4
 | scope b ih =>
  intro s ex s' h c a w hR ht Q hQ
  unfold evCode at h
  refine wp_scope_straight (ih s ex s' h c a w hR ht _ fun c1 a1 w1 e he k1 k2 k3 k4 => ?_)
  cases ex <;> cases he <;> exact hQ c1 a1 w1 _ rfl k1 k2 k3 k4
 | exit id =>
  intro s ex s' h c a w hR ht Q hQ
  unfold evCode at h; cases h
  exact wp_exit (hQ c a w _ rfl hR ht (Fr.refl c w) rfl)
 | ret =>
  intro s ex s' h c a w hR ht Q hQ
  unfold evCode at h; cases h
  exact wp_ret (hQ c a w _ rfl hR ht (Fr.refl c w) rfl)
 | _ => intro s ex s' h; unfold evCode at h; cases h
end
end Go.Ev
namespace Go.Ev
open Go Go.RowKit
section
variable {G : Cfg} {c c' : Cx} {σ σ' : Store} {w w' : World} {P : Program}
theorem VC_frz {ok ok' : Nat → Prop} {x : AV} {v : Value} (hok : ∀ b, ok b → ok' b) (h : VC ok w x v)
  (hn : ∀ e n xs, x = .nst e n xs → ∃ A k, v = .slice A n k ∧ n ≤ k ∧ NN 0 A n ∧ (xs = [] ∨ ∃ b off, A = some ⟨b, off, none⟩ ∧ ok' b ∧ VCs ok' w xs b off)) : VC ok' w (frz x) v := by
 cases x with
 | nst e n xs =>
  simp only [frz, VC]
  exact hn e n xs rfl
 | _ => exact VC_ok hok h
theorem VC_subNst {ok ok' : Nat → Prop} {x : AV} {v : Value} (hok : ∀ b, ok b → ok' b) (h : VC ok w x v) : VC ok' w (subNst x) v := by
 cases x with
 | nst e n xs => simp only [subNst, VC]; exact VC_one h
 | _ => exact VC_ok hok h
theorem giveUp_run (hR : Rel G c σ w) {N : Names} (hk : ∀ id j, N.to id = some j → c.kn id → c'.kn j ∧ ∀ sub, c'.m (j, sub) = none ∨ c'.m (j, sub) = c.m (id, sub)) (hok : ∀ b, c.ok w b → c'.ok w b) {x y : AV} {v : Value}
  (h : giveUp σ x = some y) (hB : ∀ id, id ∈ x.refs → ∀ sub b sh e, c.m (id, sub) = some (some (b, sh, e)) → c'.ok w b) (hx : VR c w x v) : VR c' w (y.ren N) v := by
 unfold giveUp at h
 split at h
 ·rename_i id sub off n cap
  split at h
  ·rename_i cs e hrow
   obtain ⟨xs, hxs, rfl⟩ := Option.map_eq_some_iff.1 h
   obtain ⟨hle, hye⟩ := takeAt_some hxs
   obtain ⟨hkn, A, k, rfl, hn, hc, hA0, hm0, hm⟩ := VR_own.1 hx
   simp only [AV.ren]
   rw [VR_sl]
   refine ⟨A, k, rfl, hn, NN.of fun h => by have := hA0 h; omega, ?_⟩
   rcases hR.row hrow with ⟨h1, h2⟩ | ⟨b, sh, h1, h2, h3⟩
   ·left
    subst h2
    have : xs = [] := by rw [hye]; simp
    subst this
    split <;> first | rfl | (split <;> rfl)
   ·rcases (hm b sh e h1).1 with hk0 | hA
    ·left
     have hn0 : n = 0 := by omega
     have : xs = [] := by rw [hye, hn0]; simp
     subst this
     split <;> first | rfl | (split <;> rfl)
    ·right
     have hb := hB id (by simp [AV.refs]) sub b sh e h1
     refine ⟨b, sh + off, hA, hb, ?_⟩
     have hv : VCs (c.ok w) w xs b (sh + off) := by rw [hye]; exact VCs_take (VCs_drop h3)
     split
     ·rename_i hs
      refine VCs_map hv fun j y u hy hu hyu => VC_frz hok hyu fun e2 n2 zs he => ?_
      subst he
      have hsub : sub = none := by simpa using hs.1
      subst hsub
      simp only [rowOf] at hrow
      split at hrow
      ·rename_i blk hb'
       split at hrow
       ·rename_i ha
        cases hrow
        have hcell : blk.cells[off + j]? = some (.nst e2 n2 zs) := by
         rw [hye, List.getElem?_take] at hy
         split at hy
         ·rw [List.getElem?_drop] at hy; exact hy
         ·cases hy
        rcases hR.blk id blk hb' with ⟨_, k2, _⟩ | ⟨b2, sh2, k1, _, _, k4⟩
        ·rw [k2] at hcell; simp at hcell
        ·rw [h1] at k1
         cases k1
         obtain ⟨u', hu', hcc⟩ := k4 _ _ hcell
         rw [← Nat.add_assoc, hu] at hu'
         cases hu'
         unfold CellOk at hcc
         rw [if_pos ha] at hcc
         obtain ⟨A', k', q1, q2, q3⟩ := hcc.2.2 _ _ _ rfl
         refine ⟨A', k', q1, q2, ?_, ?_⟩
         ·refine NN.of fun hA' => ?_
          rcases q3 with ⟨_, _, q⟩ | ⟨b', sh', _, q, _⟩
          ·omega
          ·rw [hA'] at q; cases q
         ·rcases q3 with ⟨_, q, _⟩ | ⟨b', sh', q4, q5, _, _, _, q6⟩
          ·exact .inl q
          ·exact .inr ⟨b', sh', q5, hB id (by simp [AV.refs]) _ b' sh' _ q4, VCs_ok hok q6⟩
       ·cases hrow
      ·cases hrow
     ·split
      ·exact VCs_ok hok hv
      ·exact VCs_map hv fun j y u _ _ hyu => VC_subNst hok hyu
  ·cases h
 ·cases h
  obtain ⟨A, rfl⟩ := VR_emp.1 hx
  simp only [AV.ren]
  exact VR_sl.2 ⟨A, 0, rfl, Nat.le_refl _, NN.of fun _ => rfl, .inl rfl⟩
 ·rename_i hne
  cases h
  exact VR_ren hk _ _ (.inr hok) hx
theorem giveUpL_run (hR : Rel G c σ w) {N : Names} (hk : ∀ id j, N.to id = some j → c.kn id → c'.kn j ∧ ∀ sub, c'.m (j, sub) = none ∨ c'.m (j, sub) = c.m (id, sub)) (hok : ∀ b, c.ok w b → c'.ok w b) :
  ∀ (xs ys : List AV) (vs : List Value), giveUpL σ xs = some ys → (∀ id, id ∈ AV.refsL xs → ∀ sub b sh e, c.m (id, sub) = some (some (b, sh, e)) → c'.ok w b) → VRt c w xs vs → VRt c' w (AV.renL N ys) vs
 | [], ys, vs, h, _, hx => by
  simp only [giveUpL] at h
  cases h
  cases vs with
  | nil => simp only [AV.renL, VRt]
  | cons v q => simp [VRt] at hx
 | x :: r, ys, vs, h, hB, hx => by
  simp only [giveUpL] at h
  obtain ⟨y, hy, h⟩ := Option.bind_eq_some_iff.1 h
  obtain ⟨r', hr, h⟩ := Option.bind_eq_some_iff.1 h
  cases h
  cases vs with
  | nil => simp [VRt] at hx
  | cons v q =>
   simp only [VRt] at hx
   simp only [AV.renL, VRt]
   exact ⟨giveUp_run hR hk hok hy (fun id hid => hB id (by simp only [AV.refsL]; exact List.mem_append.2 (.inl hid))) hx.1,
    giveUpL_run hR hk hok r r' q hr (fun id hid => hB id (by simp only [AV.refsL]; exact List.mem_append.2 (.inr hid))) hx.2⟩
theorem giveUpV_run (hR : Rel G c σ w) {N : Names} (hk : ∀ id j, N.to id = some j → c.kn id → c'.kn j ∧ ∀ sub, c'.m (j, sub) = none ∨ c'.m (j, sub) = c.m (id, sub)) (hok : ∀ b, c.ok w b → c'.ok w b) {x y : AV} {v : Value}
  (h : giveUpV σ x = some y) (hB : ∀ id, id ∈ x.refs → ∀ sub b sh e, c.m (id, sub) = some (some (b, sh, e)) → c'.ok w b) (hx : VR c w x v) : VR c' w (y.ren N) v := by
 unfold giveUpV at h
 split at h
 ·rename_i cs
  obtain ⟨ys, hys, rfl⟩ := Option.map_eq_some_iff.1 h
  simp only [AV.ren]
  simp only [VR] at hx ⊢
  obtain ⟨vs, h1, h2, h3⟩ := hx
  exact ⟨vs, h1, giveUpL_run hR hk hok cs ys _ hys (fun id hid => hB id (by simpa only [AV.refs] using hid)) h2, h3⟩
 ·exact giveUp_run hR hk hok h hB hx
theorem giveUpVs_run (hR : Rel G c σ w) {N : Names} (hk : ∀ id j, N.to id = some j → c.kn id → c'.kn j ∧ ∀ sub, c'.m (j, sub) = none ∨ c'.m (j, sub) = c.m (id, sub)) (hok : ∀ b, c.ok w b → c'.ok w b) :
  ∀ (xs ys : List AV) (vs : List Value), giveUpVs σ xs = some ys → (∀ id, id ∈ AV.refsL xs → ∀ sub b sh e, c.m (id, sub) = some (some (b, sh, e)) → c'.ok w b) → VRt c w xs vs → VRt c' w (AV.renL N ys) vs
 | [], ys, vs, h, _, hx => by
  simp only [giveUpVs] at h
  cases h
  cases vs with
  | nil => simp only [AV.renL, VRt]
  | cons v q => simp [VRt] at hx
 | x :: r, ys, vs, h, hB, hx => by
  simp only [giveUpVs] at h
  obtain ⟨y, hy, h⟩ := Option.bind_eq_some_iff.1 h
  obtain ⟨r', hr, h⟩ := Option.bind_eq_some_iff.1 h
  cases h
  cases vs with
  | nil => simp [VRt] at hx
  | cons v q =>
   simp only [VRt] at hx
   simp only [AV.renL, VRt]
   exact ⟨giveUpV_run hR hk hok hy (fun id hid => hB id (by simp only [AV.refsL]; exact List.mem_append.2 (.inl hid))) hx.1,
    giveUpVs_run hR hk hok r r' q hr (fun id hid => hB id (by simp only [AV.refsL]; exact List.mem_append.2 (.inr hid))) hx.2⟩
theorem giveUpT_run (hR : Rel G c σ w) {N : Names} (hk : ∀ id j, N.to id = some j → c.kn id → c'.kn j ∧ ∀ sub, c'.m (j, sub) = none ∨ c'.m (j, sub) = c.m (id, sub)) (hok : ∀ b, c.ok w b → c'.ok w b) {x y : AV} {v : Value}
  (h : giveUpT σ x = some y) (hB : ∀ id, id ∈ x.refs → ∀ sub b sh e, c.m (id, sub) = some (some (b, sh, e)) → c'.ok w b) (hx : VR c w x v) : VR c' w (y.ren N) v := by
 unfold giveUpT at h
 split at h
 ·rename_i cs
  obtain ⟨ys, hys, rfl⟩ := Option.map_eq_some_iff.1 h
  simp only [AV.ren]
  simp only [VR] at hx ⊢
  obtain ⟨vs, h1, h2⟩ := hx
  exact ⟨vs, h1, giveUpVs_run hR hk hok cs ys _ hys (fun id hid => hB id (by simpa only [AV.refs] using hid)) h2⟩
 ·exact giveUpV_run hR hk hok h hB hx
theorem nameIds_is {nm : Nat → Id} : ∀ (ids : List Id) (k : Nat) (N : Names) (p : Id × Id), p ∈ (nameIds σ nm k ids N).2 → p ∈ N ∨ ((σ.get? p.1).isSome = true ∧ ∃ i, p.2 = nm i)
 | [], _, _, p, h => .inl (by simpa [nameIds] using h)
 | i :: r, k, N, p, h => by
  simp only [nameIds] at h
  split at h
  ·exact nameIds_is r k N p h
  ·rename_i hc
   rcases nameIds_is r (k + 1) _ p h with h | h
   ·rcases List.mem_append.1 h with h | h
    ·exact .inl h
    ·obtain rfl := List.mem_singleton.1 h
     refine .inr ⟨?_, k, rfl⟩
     cases hg : σ.get? i with
     | none => exact absurd (.inr (by rw [hg]; rfl)) hc
     | some b => rfl
   ·exact .inr h
theorem collect_is {nm : Nat → Id} (ids : List Id) (N : Names) (p : Id × Id) (h : p ∈ (collect σ nm ids N).2) : p ∈ N ∨ ((σ.get? p.1).isSome = true ∧ ∃ i, p.2 = nm i) := by
 unfold collect at h
 rcases nameIds_is _ _ _ p h with h | h
 ·rcases nameIds_is _ _ _ p h with h | h
  ·exact nameIds_is _ _ _ p h
  ·exact .inr h
 ·exact .inr h
theorem nameIds_sub {nm : Nat → Id} : ∀ (ids : List Id) (k : Nat) (N : Names) (p : Id × Id), p ∈ N → p ∈ (nameIds σ nm k ids N).2
 | [], _, _, _, h => h
 | i :: r, k, N, p, h => by
  simp only [nameIds]
  split
  ·exact nameIds_sub r k N p h
  ·exact nameIds_sub r (k + 1) _ p (List.mem_append_left _ h)
theorem collect_sub {nm : Nat → Id} (ids : List Id) (N : Names) (p : Id × Id) (h : p ∈ N) : p ∈ (collect σ nm ids N).2 := by
 unfold collect
 exact nameIds_sub _ _ _ _ (nameIds_sub _ _ _ _ (nameIds_sub _ _ _ _ h))
theorem lentNames_is : ∀ (σ : Store) (p : Id × Id), p ∈ lentNames σ → ∃ i, p = (.l i, .l i)
 | [], p, h => by simp [lentNames] at h
 | (j, b) :: r, p, h => by
  cases j <;> simp only [lentNames] at h <;> first
   | exact lentNames_is r p h
   | (
    rcases List.mem_cons.1 h with h | h
    ·exact ⟨_, h⟩
    ·exact lentNames_is r p h)
theorem leaveK_run (hR : Rel G c σ w) {v res : AV} {rv : Value} (h : leaveK (v, σ) = some (res, σ')) (hv : VR c w v rv) : ∃ c', Rel G c' σ' w ∧ VR c' w res rv ∧ Fr c w c' w := by
 unfold leaveK at h
 simp only at h
 ·have hNs : ∀ p, p ∈ (collect σ (.r 0) v.refs (lentNames σ)).2 → (∃ i, p = (.l i, .l i)) ∨ ∃ i, p.2 = .r 0 i := fun p hp => by
   rcases collect_is _ _ _ hp with h | ⟨_, h⟩
   ·exact .inl (lentNames_is σ p h)
   ·exact .inr h
  have hNm : ∀ i, σ.has (.l i) = true → (.l i, .l i) ∈ (collect σ (.r 0) v.refs (lentNames σ)).2 := fun i hi => collect_sub _ _ _ (lentNames_mem (i := i) σ hi)
  generalize (collect σ (.r 0) v.refs (lentNames σ)).2 = N at h hNs hNm
  unfold leaveKeep at h
  split at h
  ·rename_i hN
   cases h
   have hat : ∀ b, (c.ren N c.S c.base).at_ b → c.at_ b := by
    rintro b ⟨⟨j, sub⟩, sh, e, hk⟩
    obtain ⟨a, ha, e1⟩ := ren_some (by rw [hk]; simp)
    rw [e1] at hk
    exact ⟨_, _, _, hk⟩
   have hok : ∀ b, c.ok w b → (c.ren N c.S c.base).ok w b := by
    intro b hb
    rcases hb with hb | ⟨h1, h2, h3⟩
    ·exact .inl hb
    ·exact .inr ⟨h1, h2, fun hh => h3 (hat b hh)⟩
   have hk : ∀ id j, N.to id = some j → c.kn id → (c.ren N c.S c.base).kn j ∧ ∀ sub, (c.ren N c.S c.base).m (j, sub) = none ∨ (c.ren N c.S c.base).m (j, sub) = c.m (id, sub) := by
    intro id j hj _
    rw [to_fro hN] at hj
    exact ⟨by simp only [Cx.ren, hj, Option.isSome], fun sub => .inr (ren_m hj sub)⟩
   refine ⟨c.ren N c.S c.base, ?_, VR_ren hk _ _ (.inr hok) hv, ?_⟩
   ·refine Rel.ren hR hN (fr := fun f => f) (fun b hb => ⟨(hR.sS b hb).1, fun id j sub sh e _ hm => (hR.sS b hb).2 ⟨_, _, _, hm⟩⟩) hR.base hok (fun _ h => h) (fun f hf => ⟨Nat.le_refl _, hf⟩) (fun j => ren_has N j) (fun j => ?_)
    rw [ren_get]
    congr 1
    funext a
    congr 1
    funext b
    exact (Blk.ren_fr N b).symm
   ·have hln : ∀ i, c.kn (.l i) → N.fro (.l i) = some (.l i) := fun i hi => (to_fro hN).1 (to_of_mem (ok_spec hN).1 (hNm i ((hR.kn _).1 hi)))
    exact ⟨rfl, rfl, Nat.le_refl _, fun i hi => by simp only [Cx.ren, hln i hi, Option.isSome], fun i sub hi => .inr (ren_m (hln i hi) sub), fun b hb => .inl (hat b hb), fun _ _ _ => rfl, fun _ _ => rfl, rfl, rfl, rfl⟩
  ·cases h
theorem leaveA_run (hR : Rel G c σ w) {f : FuncId} {v res : AV} {rv : Value} (h : leaveA G f v σ = some (res, σ')) (hv : VR c w v rv) : ∃ c', Rel G c' σ' w ∧ VR c' w res rv ∧ Fr c w c' w := by
 unfold leaveA at h
 split at h
 ·obtain ⟨c1, h1, h2, h3⟩ := matT_run hR (G.hint f 1000000) v
  obtain ⟨c2, k1, k2, k3⟩ := leaveK_run h1 h (h3 rv hv)
  exact ⟨c2, k1, k2, (Fr.of h2).trans k3⟩
 ·have hNs := lentNames_is σ
  have hNm := fun i => lentNames_mem (i := i) σ
  generalize lentNames σ = N at h hNs hNm
  unfold leaveWith at h
  split at h
  ·rename_i hc
   rw [Bool.and_eq_true] at hc
   obtain ⟨hN, hall⟩ := hc
   obtain ⟨v', hv', he⟩ := Option.map_eq_some_iff.1 h
   cases he
   have hfro : ∀ j a, N.fro j = some a → ∃ i, j = .l i ∧ a = .l i := by
    intro j a hja
    have := to_mem ((to_fro hN).2 hja)
    obtain ⟨i, hi⟩ := hNs _ this
    cases hi
    exact ⟨i, rfl, rfl⟩
   have hatl : ∀ b, (c.ren N c.S c.base).at_ b → ∃ i sub sh e, c.m (.l i, sub) = some (some (b, sh, e)) := by
    rintro b ⟨⟨j, sub⟩, sh, e, hk⟩
    obtain ⟨a, ha, e1⟩ := ren_some (by rw [hk]; simp)
    rw [e1] at hk
    obtain ⟨i, rfl, rfl⟩ := hfro j a ha
    exact ⟨i, sub, sh, e, hk⟩
   have hok : ∀ b, c.ok w b → (c.ren N c.S c.base).ok w b := by
    intro b hb
    rcases hb with hb | ⟨h1, h2, h3⟩
    ·exact .inl hb
    ·refine .inr ⟨h1, h2, fun hh => ?_⟩
     obtain ⟨i, sub, sh, e, hk⟩ := hatl b hh
     exact h3 ⟨_, _, _, hk⟩
   have hk : ∀ id j, N.to id = some j → c.kn id → (c.ren N c.S c.base).kn j ∧ ∀ sub, (c.ren N c.S c.base).m (j, sub) = none ∨ (c.ren N c.S c.base).m (j, sub) = c.m (id, sub) := by
    intro id j hj _
    rw [to_fro hN] at hj
    exact ⟨by simp only [Cx.ren, hj, Option.isSome], fun sub => .inr (ren_m hj sub)⟩
   refine ⟨c.ren N c.S c.base, ?_, ?_, ?_⟩
   ·refine Rel.ren hR hN (fr := fun f => f) (fun b hb => ⟨(hR.sS b hb).1, fun id j sub sh e _ hm => (hR.sS b hb).2 ⟨_, _, _, hm⟩⟩) hR.base hok (fun _ h => h) (fun f hf => ⟨Nat.le_refl _, hf⟩) (fun j => ren_has N j) (fun j => ?_)
    rw [ren_get]
    congr 1
    funext a
    congr 1
    funext b
    exact (Blk.ren_fr N b).symm
   ·refine giveUpT_run hR hk hok hv' (fun id hid sub b sh e hm => ?_) hv
    have hi := List.all_eq_true.1 hall id hid
    cases hg : σ.get? id with
    | none => cases id <;> simp [hg] at hi
    | some blk =>
     have hfr : blk.fr = true ∧ ∀ i, id ≠ .l i := by cases id <;> simp [hg] at hi <;> exact ⟨hi, by intro i; simp⟩
     refine .inr ⟨fr_base hR hg hfr.1 sub b sh e hm, hR.lt b ⟨_, _, _, hm⟩, fun hh => ?_⟩
     obtain ⟨i, sub', sh', e', hm'⟩ := hatl b hh
     have := hR.inj _ _ _ _ _ _ _ hm hm'
     cases this
     exact hfr.2 i rfl
   ·have hln : ∀ i, c.kn (.l i) → N.fro (.l i) = some (.l i) := fun i hi => (to_fro hN).1 (to_of_mem (ok_spec hN).1 (hNm i ((hR.kn _).1 hi)))
    refine ⟨rfl, rfl, Nat.le_refl _, fun i hi => by simp only [Cx.ren, hln i hi, Option.isSome], fun i sub hi => .inr (ren_m (hln i hi) sub), fun b hb => ?_, fun _ _ _ => rfl, fun _ _ => rfl, rfl, rfl, rfl⟩
    obtain ⟨i, sub, sh, e, hm⟩ := hatl b hb
    exact .inl ⟨_, _, _, hm⟩
  ·cases h
end
end Go.Ev
namespace Go.Ev
open Go Go.RowKit
section
variable {G : Cfg} {c c' : Cx} {σ σ' : Store} {w w' : World} {P : Program}
def CallOk (G : Cfg) (C : Oracle) : Prop := ∀ (f : FuncId) (args : List AV) (σ : Store) (res : AV) (σ' : Store), C f args σ = some (res, σ') →
 ∀ (c : Cx) (w : World) (vals : List Value), Rel G c σ w → VRt c w args vals → Calls G.P f vals.toArray w fun e w' => ∃ rv c', e = .returned rv ∧ Rel G c' σ' w' ∧ VR c' w' res rv ∧ Fr c w c' w'
theorem VRt_append {xs ys : List AV} {vs us : List Value} (h : VRt c w xs vs) (k : VRt c w ys us) : VRt c w (xs ++ ys) (vs ++ us) := by
 induction xs generalizing vs with
 | nil => cases vs with
  | nil => exact k
  | cons v q => simp [VRt] at h
 | cons x r ih => cases vs with
  | nil => simp [VRt] at h
  | cons v q =>
   simp only [VRt] at h
   simp only [List.cons_append, VRt]
   exact ⟨h.1, ih h.2⟩
theorem VRt_undef (n : Nat) : VRt c w (List.replicate n undefA) (List.replicate n undef) := by
 induction n with
 | zero => simp [VRt]
 | succ n ih => simp only [List.replicate_succ, VRt]; exact ⟨VR_sc.2 rfl, ih⟩
theorem resA_run (hR : Rel G c σ w) {ts : List AV} {tmps : Array Value} (ht : VRt c w ts tmps.toList) : ∀ (rs : List ResultVar) (avs : List AV), rs.mapM (resA G ts σ) = some avs →
  ∃ vs, (∀ g : ResultVar → Sem Value, (∀ t, g (.tmp t) = pure (tmps.getD t undef)) → (∀ a t, g (.cell a t) = do loadVar t (← asAddr (tmps.getD a undef))) → (rs.mapM g).run G.P w = .ok vs w) ∧ VRt c w avs vs
 | [], avs, h => by
  simp at h
  subst h
  exact ⟨[], fun g _ _ => by simp, by simp [VRt]⟩
 | r :: rs, avs, h => by
  rw [List.mapM_cons] at h
  obtain ⟨x, hx, h⟩ := Option.bind_eq_some_iff.1 h
  obtain ⟨xs, hxs, h⟩ := Option.bind_eq_some_iff.1 h
  cases h
  obtain ⟨vs, h1, h2⟩ := resA_run hR ht rs xs hxs
  cases r with
  | tmp t =>
   simp only [resA] at hx
   cases hx
   refine ⟨tmps.getD t undef :: vs, fun g g1 g2 => ?_, ?_⟩
   ·rw [List.mapM_cons, g1]
    simp only [Sem.run_bind, Sem.run_pure, Result.andThen_ok, h1 g g1 g2]
   ·simp only [VRt]
    exact ⟨VR_getD ht t, h2⟩
  | cell a t =>
   simp only [resA] at hx
   obtain ⟨v, hv, hxv⟩ := loadA_run hR hx (VR_getD ht a)
   have hload : ((do loadVar t (← asAddr (tmps.getD a undef))) : Sem Value).run G.P w = .ok v w := by
    generalize tmps.getD a undef = q at hv
    unfold Instr.loadAt at hv
    cases q with
    | pointer p =>
     cases p with
     | none => simp [Instr.sureAddr] at hv
     | some ad => simpa [Instr.sureAddr, asAddr] using hv
    | _ => simp [Instr.sureAddr] at hv
   refine ⟨v :: vs, fun g g1 g2 => ?_, ?_⟩
   ·rw [List.mapM_cons, g2, Sem.run_bind, hload]
    simp only [Sem.run_bind, Result.andThen_ok, h1 g g1 g2, Sem.run_pure]
   ·simp only [VRt]
    exact ⟨hxv, h2⟩
theorem result_run (hR : Rel G c σ w) {fn : Func} {ts : List AV} {tmps : Array Value} (ht : VRt c w ts tmps.toList) {v : AV} (h : resultA G fn ⟨ts, σ⟩ = some v) :
  ∃ rv, (results fn tmps).run G.P w = .ok rv w ∧ VR c w v rv := by
 unfold resultA at h
 split at h
 ·rename_i x hx
  cases h
  obtain ⟨vs, h1, h2⟩ := resA_run hR ht _ _ hx
  cases vs with
  | nil => simp [VRt] at h2
  | cons u q =>
   simp only [VRt] at h2
   cases q with
   | cons _ _ => simp [VRt] at h2
   | nil =>
    refine ⟨u, ?_, h2.1⟩
    unfold results
    rw [Array.mapM_eq_mapM_toList]
    simp only [Sem.run_bind, Sem.run_map]
    rw [h1 _ (fun _ => rfl) (fun _ _ => rfl)]
    simp
 ·rename_i xs hne hxs
  cases h
  obtain ⟨vs, h1, h2⟩ := resA_run hR ht _ _ hxs
  have hl := VRt_length h2
  have hne1 : vs.length ≠ 1 := by
   intro h
   rw [h] at hl
   cases xs with
   | nil => simp at hl
   | cons x q =>
    cases q with
    | nil => exact hne x rfl
    | cons _ _ => simp at hl
  refine ⟨.tuple vs.toArray, ?_, ?_⟩
  ·unfold results
   rw [Array.mapM_eq_mapM_toList]
   simp only [Sem.run_bind, Sem.run_map]
   rw [h1 _ (fun _ => rfl) (fun _ _ => rfl)]
   simp [hne1]
  ·simp only [VR]
   exact ⟨_, rfl, by simpa using h2⟩
 ·cases h
theorem callBody0_run {C : Oracle} {L : LoopOracle} (hC : RegOk G C) (hL : LoopOk G L) : CallOk G (callBody0 G C L) := by
 intro f args σ res σ' h c w vals hR hv
 unfold callBody0 at h
 split at h
 ·rename_i fn hf
  split at h
  ·rename_i k hb
   have hl := VRt_length hv
   refine calls_of_wp hf hb ?_
   have ht : VRt c w (args ++ List.replicate (fn.ntmps - args.length) undefA) ({ tmps := vals.toArray ++ Array.replicate (fn.ntmps - vals.toArray.size) undef, defers := [] } : Act).tmps.toList := by
    simp only [Array.toList_append, Array.toList_replicate, List.size_toArray, hl]
    exact VRt_append hv (VRt_undef _)
   have hend : ∀ (s : St) (c1 : Cx) (a1 : Act) (w1 : World) (v : AV), resultA G fn s = some v → leaveA G f v s.σ = some (res, σ') → Rel G c1 s.σ w1 → VRt c1 w1 s.ts a1.tmps.toList → Fr c w c1 w1 →
     ∃ rv, (results fn a1.tmps).run G.P w1 = .ok rv w1 ∧ ∃ rv' c', Ending.returned rv = .returned rv' ∧ Rel G c' σ' w1 ∧ VR c' w1 res rv' ∧ Fr c w c' w1 := by
    intro s c1 a1 w1 v hr hlv k1 k2 k3
    obtain ⟨rv, h1, h2⟩ := result_run k1 k2 hr
    obtain ⟨c2, m1, m2, m3⟩ := leaveA_run k1 hlv h2
    exact ⟨rv, h1, rv, c2, rfl, m1, m2, k3.trans m3⟩
   split at h
   ·rename_i s he
    split at h
    ·rename_i v hr
     refine evCode_run hC hL k _ _ _ he c _ w hR ht _ fun c1 a1 w1 e hex k1 k2 k3 k4 => ?_
     cases hex
     exact ⟨k4, hend s c1 a1 w1 v hr h k1 k2 k3⟩
    ·cases h
   ·rename_i s he
    split at h
    ·rename_i v hr
     refine evCode_run hC hL k _ _ _ he c _ w hR ht _ fun c1 a1 w1 e hex k1 k2 k3 k4 => ?_
     cases hex
     exact ⟨k4, hend s c1 a1 w1 v hr h k1 k2 k3⟩
    ·cases h
   ·cases h
  ·cases h
 ·cases h
theorem callZ_run {B : Oracle} (hB : CallOk G B) : CallOk G (callZ G B) := by
 intro f args σ res σ' h c w vals hR hv
 unfold callZ at h
 split at h
 ·split at h
  ·rename_i hb
   cases vals with
   | nil => simp [VRt] at hv
   | cons v q =>
    cases q with
    | cons _ _ => simp [VRt] at hv
    | nil =>
     simp only [VRt, and_true] at hv
     obtain ⟨A, k, rfl, hn, hA, hx⟩ := VR_sl.1 hv
     cases A with
     | none =>
      have h0 := hA.z rfl
      exact hB _ _ _ _ _ ((hb h0).trans h) c w _ hR (by simp only [VRt, and_true]; exact VR_sl.2 ⟨none, k, by rw [h0], Nat.zero_le _, ⟨fun _ => ⟨rfl, by decide⟩, fun _ => rfl⟩, .inl rfl⟩)
     | some a => exact hB _ _ _ _ _ h c w _ hR (by simp only [VRt, and_true]; exact VR_sl.2 ⟨some a, k, rfl, hn, ⟨fun h => (by cases h), fun h => (by cases h)⟩, hx⟩)
  ·cases h
 ·split at h
  ·rename_i hb
   cases vals with
   | nil => simp [VRt] at hv
   | cons v q =>
    cases q with
    | cons _ _ => simp [VRt] at hv
    | nil =>
     simp only [VRt, and_true] at hv
     obtain ⟨A, rfl⟩ := VR_emp.1 hv
     cases A with
     | none => exact hB _ _ _ _ _ (hb.trans h) c w _ hR (by simp only [VRt, and_true]; exact VR_sl.2 ⟨none, 0, rfl, Nat.zero_le _, ⟨fun _ => ⟨rfl, by decide⟩, fun _ => rfl⟩, .inl rfl⟩)
     | some a => exact hB _ _ _ _ _ h c w _ hR (by simp only [VRt, and_true]; exact VR_sl.2 ⟨some a, 0, rfl, Nat.zero_le _, ⟨fun h => (by cases h), fun h => (by cases h)⟩, .inl rfl⟩)
  ·cases h
 ·exact hB _ _ _ _ _ h c w _ hR hv
def ExtOk (G : Cfg) : Prop := ∀ (f : FuncId) (args : List AV) (r : AV), G.ext f args = some r → ∀ (c : Cx) (w : World) (vals : List Value), Rel G c [] w → VRt c w args vals →
 Calls G.P f vals.toArray w fun e w' => ∃ rv c', e = .returned rv ∧ Rel G c' [] w' ∧ VR c' w' r rv ∧ Fr c w c' w'
theorem ExtOk.none {G : Cfg} (h : ∀ f a, G.ext f a = .none) : ExtOk G := fun f a r hr => by rw [h] at hr; cases hr
theorem callX_run {B : Oracle} (hE : ExtOk G) (hB : CallOk G B) : CallOk G (callX G B) := by
 intro f args σ res σ' h c w vals hR hv
 unfold callX at h
 split at h
 ·rename_i r hr
  cases h
  exact hE f args _ hr c w vals hR hv
 ·cases h
 ·exact hB _ _ _ _ _ h c w _ hR hv
theorem callBody_run {C : Oracle} {L : LoopOracle} (hE : ExtOk G) (hC : RegOk G C) (hL : LoopOk G L) : CallOk G (callBody G C L) := callX_run hE (callZ_run (callBody0_run hC hL))
def RoundsOk (G : Cfg) (L : LoopOracle) (n : Nat) : Prop := ∀ (f : FuncId) (b : Code) (s : St) (ex : Ex) (s' : St), L f b s = some (ex, s') →
 ∀ (c : Cx) (a : Act) (w : World), Rel G c s.σ w → VRt c w s.ts a.tmps.toList → ∀ (Q : Exit → Act → World → Prop),
  (∀ c' a' w' e, exOk ex e → Rel G c' s'.σ w' → VRt c' w' s'.ts a'.tmps.toList → Fr c w c' w' → a'.defers = a.defers → Q e a' w') → Code.rounds G.P b Q n a w
theorem LoopOk.of {L : LoopOracle} {n : Nat} (h : RoundsOk G L n) : LoopOk G L := fun f b s ex s' he c a w hR ht Q hQ => wp_loop_rounds n (h f b s ex s' he c a w hR ht Q hQ)
theorem loopBody_run {C : Oracle} {L : LoopOracle} {n : Nat} (hC : RegOk G C) (hL : RoundsOk G L n) : RoundsOk G (loopBody G C L) (n + 1) := by
 intro f b s ex s' h c a w hR ht Q hQ
 rw [rounds_succ]
 unfold loopBody at h
 split at h
 ·rename_i s1 he
  obtain ⟨s2, h2, h3⟩ := Option.bind_eq_some_iff.1 h
  refine evCode_run hC (LoopOk.of hL) b s _ s1 he c a w hR ht _ fun c1 a1 w1 e hex k1 k2 k3 k4 => ?_
  cases hex
  obtain ⟨c2, m1, m2, m3⟩ := head_run k1 k2 h2
  exact hL f b s2 ex s' h3 c2 a1 w1 m1 m2 Q fun c3 a3 w3 e3 he3 q1 q2 q3 q4 => hQ c3 a3 w3 e3 he3 q1 q2 (k3.trans (m3.trans q3)) (q4.trans k4)
 ·rename_i hne
  refine evCode_run hC (LoopOk.of hL) b s ex s' h c a w hR ht _ fun c1 a1 w1 e hex k1 k2 k3 k4 => ?_
  cases ex with
  | normal => exact absurd h (hne _)
  | exit i => cases hex; exact hQ c1 a1 w1 _ rfl k1 k2 k3 k4
  | ret => cases hex; exact hQ c1 a1 w1 _ rfl k1 k2 k3 k4
end
end Go.Ev
namespace Go.Ev
open Go Go.RowKit
section
variable {G : Cfg} {c c' : Cx} {σ σ' : Store} {w w' : World} {P : Program}
def Cx.start (c : Cx) (w : World) (N : Names) (F : Id → Prop) : Cx :=
 c.ren N (fun b => c.ok w b ∨ ∃ id sub sh e, F id ∧ c.m (id, sub) = some (some (b, sh, e))) w.heap.size
theorem start_names {N : Names} (hN : N.ok = true) (F : Id → Prop) : ∀ id j, N.to id = some j → c.kn id → (c.start w N F).kn j ∧ ∀ sub, (c.start w N F).m (j, sub) = none ∨ (c.start w N F).m (j, sub) = c.m (id, sub) := by
 intro id j hj _
 rw [to_fro hN] at hj
 exact ⟨by simp only [Cx.start, Cx.ren, hj, Option.isSome], fun sub => .inr (ren_m hj sub)⟩
theorem start_ok {N : Names} {F : Id → Prop} : ∀ b, c.ok w b → (c.start w N F).ok w b := fun _ hb => .inl (.inl hb)
theorem passAll_run (hR : Rel G c σ w) {N : Names} (hN : N.ok = true) {lend : Nat → Bool} {F : Id → Prop} : ∀ (i : Nat) (args out : List AV) (fr : List Id) (vals : List Value), passAll σ N lend i args = some (out, fr) → (∀ id, id ∈ fr → F id) →
  VRt c w args vals → VRt (c.start w N F) w out vals
 | i, [], out, fr, vals, h, _, hv => by
  simp only [passAll] at h
  cases h
  cases vals with
  | nil => simp only [VRt]
  | cons v q => simp [VRt] at hv
 | i, x :: r, out, fr, vals, h, hF, hv => by
  simp only [passAll] at h
  obtain ⟨p, hp, h⟩ := Option.bind_eq_some_iff.1 h
  obtain ⟨q, hq, h⟩ := Option.bind_eq_some_iff.1 h
  cases h
  cases vals with
  | nil => simp [VRt] at hv
  | cons v u =>
   simp only [VRt] at hv ⊢
   have hk := start_names (c := c) (w := w) hN F
   refine ⟨?_, passAll_run hR hN (i + 1) r q.1 q.2 u hq (fun id hid => hF id (List.mem_append.2 (.inr hid))) hv.2⟩
   unfold passOne at hp
   split at hp
   ·cases hp; exact VR_ren hk _ _ (.inr start_ok) hv.1
   ·cases hp; exact VR_ren hk _ _ (.inr start_ok) hv.1
   ·split at hp
    ·cases hp; exact VR_ren hk _ _ (.inr start_ok) hv.1
    ·obtain ⟨y, hy, rfl⟩ := Option.map_eq_some_iff.1 hp
     exact giveUpV_run hR hk start_ok hy (fun id hid sub b sh e hm => .inl (.inr ⟨id, sub, sh, e, hF id (List.mem_append.2 (.inl hid)), hm⟩)) hv.1
theorem start_run (hR : Rel G c σ w) {N : Names} (hN : N.ok = true) {F : Id → Prop} (hF : ∀ id, F id → N.to id = none) : Rel G (c.start w N F) (lendS (σ.ren N N)) w := by
 refine Rel.ren hR hN (fr := fun _ => false) (fun b hb => ?_) (Nat.le_refl _) start_ok (fun b hb => .inl (.inl hb)) (fun f hf => by cases hf) (fun j => by rw [lendS_has, ren_has]) (fun j => ?_)
 ·rcases hb with hb | ⟨id0, s0, sh0, e0, h0, hm0⟩
  ·obtain ⟨h1, h2⟩ := hR.Sok b hb
   exact ⟨h1, fun id j sub sh e _ hm => h2 ⟨_, _, _, hm⟩⟩
  ·refine ⟨hR.lt b ⟨_, _, _, hm0⟩, fun id j sub sh e hj hm => ?_⟩
   have hii := hR.inj _ _ _ _ _ _ _ hm hm0
   have hie : id = id0 := congrArg Prod.fst hii
   rw [hie, hF id0 h0] at hj
   cases hj
 ·rw [lendS_get, ren_get]
  cases N.fro j with
  | none => rfl
  | some a =>
   simp only [Option.bind_some]
   cases σ.get? a <;> rfl
theorem has_put_known {τ : Store} {i : Id} {b : Blk} (h : τ.has i = true) (j : Id) : (τ.put i b).has j = τ.has j := by
 have := has_put τ i j b
 by_cases e : j = i
 ·subst e
  rw [h, this]
  exact .inl h
 ·cases h1 : (τ.put i b).has j <;> cases h2 : τ.has j <;> simp_all
theorem backLent_has {σ1 : Store} {B : Names} : ∀ (N : Names) (τ : Store) (j : Id), (backLent τ σ1 B N).has j = τ.has j
 | [], _, _ => rfl
 | (a, l) :: r, τ, j => by
  simp only [backLent]
  split
  ·rename_i b b0 _ hb0
   rw [backLent_has r, has_put_known (has_of_get hb0)]
  ·rw [backLent_has r, has_del]
theorem backLent_ne {σ1 : Store} {B : Names} : ∀ (N : Names) (τ : Store) (j : Id), j ∉ N.map (·.1) → (backLent τ σ1 B N).get? j = τ.get? j
 | [], _, _, _ => rfl
 | (a, l) :: r, τ, j, h => by
  simp only [List.map_cons, List.mem_cons, not_or] at h
  simp only [backLent]
  split
  ·rw [backLent_ne r _ j h.2, get_put_ne _ _ h.1]
  ·rw [backLent_ne r _ j h.2, get_del_ne _ h.1]
theorem backLent_mem {σ1 : Store} {B : Names} : ∀ (N : Names) (τ : Store) (a l : Id), (N.map (·.1)).Nodup → (a, l) ∈ N →
  (backLent τ σ1 B N).get? a = (σ1.get? l).bind fun b => (τ.get? a).map fun b0 => { b.ren B with fr := b0.fr }
 | [], _, _, _, _, h => by simp at h
 | (a', l') :: r, τ, a, l, hn, h => by
  simp only [List.map_cons, List.nodup_cons] at hn
  rcases List.mem_cons.1 h with h | h
  ·cases h
   simp only [backLent]
   split
   ·rename_i b b0 h1 h2
    rw [backLent_ne r _ _ hn.1, get_put_same, h1, h2]
    rfl
   ·rename_i hne
    rw [backLent_ne r _ _ hn.1, get_del_same]
    cases h1 : σ1.get? l' with
    | none => rfl
    | some b => cases h2 : τ.get? a' with
     | none => rfl
     | some b0 => exact (hne b b0 h1 h2).elim
  ·have hne : a ≠ a' := fun e => hn.1 (e ▸ List.mem_map.2 ⟨(a, l), h, rfl⟩)
   simp only [backLent]
   split
   ·rw [backLent_mem r _ a l hn.2 h, get_put_ne _ _ hne]
   ·rw [backLent_mem r _ a l hn.2 h, get_del_ne _ hne]
theorem addNew_run {q : Bool} {σ1 : Store} {B : Names} : ∀ (M : Names) (τ τ' : Store), addNew q τ σ1 B M = some τ' →
  (∀ j, τ'.has j = true ↔ τ.has j = true ∨ j ∈ M.map (·.2)) ∧ (∀ j, j ∉ M.map (·.2) → τ'.get? j = τ.get? j) ∧ (∀ l j, (l, j) ∈ M → τ.has j = false ∧ τ'.get? j = (σ1.get? l).map fun b => upFr q (b.ren B))
 | [], τ, τ', h => by
  simp only [addNew] at h
  cases h
  simp
 | (a, b) :: r, τ, τ', h => by
  simp only [addNew] at h
  split at h
  ·rename_i x hx
   split at h
   ·cases h
   ·rename_i hb
    have hb' : τ.has b = false := by simpa using hb
    obtain ⟨h1, h2, h3⟩ := addNew_run r _ τ' h
    refine ⟨fun j => ?_, fun j hj => ?_, fun l j hm => ?_⟩
    ·rw [h1, has_app]
     simp only [List.map_cons, List.mem_cons]
     rw [or_assoc]
    ·simp only [List.map_cons, List.mem_cons, not_or] at hj
     rw [h2 j hj.2, get_app hb', if_neg hj.1]
    ·rcases List.mem_cons.1 hm with hm | hm
     ·cases hm
      refine ⟨hb', ?_⟩
      by_cases hbr : b ∈ r.map (·.2)
      ·obtain ⟨⟨l', b'⟩, hp, he⟩ := List.mem_map.1 hbr
       simp only at he
       subst he
       have := (h3 l' b' hp).1
       have h4 := (has_app (τ := τ) (j := b') (i := b') (b := some (upFr q (x.ren B)))).2 (.inr rfl)
       rw [h4] at this
       cases this
      ·rw [h2 b hbr, get_app hb', if_pos rfl, hx]
       rfl
     ·obtain ⟨k1, k2⟩ := h3 l j hm
      refine ⟨?_, k2⟩
      have h4 := has_app (τ := τ) (j := j) (i := b) (b := some (upFr q (x.ren B)))
      cases hh : τ.has j with
      | false => rfl
      | true => rw [h4.2 (.inl hh)] at k1; cases k1
  ·cases h
end
end Go.Ev
namespace Go.Ev
open Go Go.RowKit
section
variable {G : Cfg} {c c' : Cx} {σ σ' : Store} {w w' : World} {P : Program}
theorem immIn_mem {σ1 : Store} : ∀ (B : Names) (l j : Id) (b : Blk), immIn σ1 B = false → (l, j) ∈ B → σ1.get? l = some b → AV.immL b.cells = false
 | [], _, _, _, _, h, _ => by simp at h
 | (l', j') :: r, l, j, b, hi, h, hb => by
  simp only [immIn, Bool.or_eq_false_iff] at hi
  rcases List.mem_cons.1 h with h | h
  ·cases h
   rw [hb] at hi
   exact hi.1
  ·exact immIn_mem r l j b hi.2 h hb
theorem delAll_get : ∀ (ids : List Id) (τ : Store) (j : Id), (delAll τ ids).get? j = if j ∈ ids then none else τ.get? j
 | [], _, _ => by simp [delAll]
 | i :: r, τ, j => by
  simp only [delAll]
  rw [delAll_get r]
  by_cases h : j ∈ r
  ·simp [h]
  ·by_cases e : j = i
   ·subst e; simp [h, get_del_same]
   ·simp [h, e, get_del_ne τ e]
theorem delAll_has : ∀ (ids : List Id) (τ : Store) (j : Id), (delAll τ ids).has j = τ.has j
 | [], _, _ => rfl
 | i :: r, τ, j => by simp only [delAll]; rw [delAll_has r, has_del]
noncomputable def Cx.back (c c2 : Cx) (B : Names) (K : Id → Prop) : Cx where
 m := fun k => by classical exact match B.fro k.1 with
  | some l => c2.m (l, k.2)
  | none => if K k.1 then none else c.m k
 kn := fun id => c.kn id ∨ (B.fro id).isSome = true
 S := c.S
 base := c.base
theorem back_some {c2 : Cx} {B : Names} {K : Id → Prop} {id l : Id} (h : B.fro id = some l) (sub : Option Nat) : (c.back c2 B K).m (id, sub) = c2.m (l, sub) := by simp [Cx.back, h]
theorem back_none {c2 : Cx} {B : Names} {K : Id → Prop} {id : Id} (h : B.fro id = none) (hK : ¬ K id) (sub : Option Nat) : (c.back c2 B K).m (id, sub) = c.m (id, sub) := by simp [Cx.back, h, hK]
theorem back_kill {c2 : Cx} {B : Names} {K : Id → Prop} {id : Id} (h : B.fro id = none) (hK : K id) (sub : Option Nat) : (c.back c2 B K).m (id, sub) = none := by simp [Cx.back, h, hK]
theorem back_cases {c2 : Cx} {B : Names} {K : Id → Prop} {id : Id} {sub : Option Nat} (h : (c.back c2 B K).m (id, sub) ≠ none) :
  (∃ l, B.fro id = some l ∧ (c.back c2 B K).m (id, sub) = c2.m (l, sub)) ∨ (B.fro id = none ∧ ¬ K id ∧ (c.back c2 B K).m (id, sub) = c.m (id, sub)) := by
 cases hf : B.fro id with
 | some l => exact .inl ⟨l, rfl, back_some hf sub⟩
 | none =>
  by_cases hK : K id
  ·exact absurd (back_kill hf hK sub) h
  ·exact .inr ⟨rfl, hK, back_none hf hK sub⟩
structure Came (G : Cfg) (c : Cx) (σ : Store) (w : World) (N : Names) (F : Id → Prop) (c2 : Cx) (σ2 : Store) (w2 : World) (B M : Names) : Prop where
 hR : Rel G c σ w
 hN : N.ok = true
 hF : ∀ id, F id → N.to id = none
 lent : ∀ a l, N.to a = some l → (σ.get? a).isSome = true ∧ ∃ i, l = .l i
 hR2 : Rel G c2 σ2 w2
 hFr : Fr (c.start w N F) w c2 w2
 hB : B.ok = true
 split : B = (N.map fun p => (p.2, p.1)) ++ M
 new : ∀ l j, (l, j) ∈ M → σ.has j = false
section
variable {N B M : Names} {F : Id → Prop} {c2 : Cx} {σ2 : Store} {w2 : World}
theorem Came.fro_lent (h : Came G c σ w N F c2 σ2 w2 B M) {a l : Id} (ha : N.to a = some l) : B.fro a = some l := by
 refine (to_fro h.hB).1 (to_of_mem (ok_spec h.hB).1 ?_)
 rw [h.split]
 exact List.mem_append.2 (.inl (List.mem_map.2 ⟨(a, l), to_mem ha, rfl⟩))
theorem Came.cases (h : Came G c σ w N F c2 σ2 w2 B M) {a l : Id} (ha : B.fro a = some l) : N.to a = some l ∨ (l, a) ∈ M := by
 have := to_mem ((to_fro h.hB).2 ha)
 rw [h.split] at this
 rcases List.mem_append.1 this with h1 | h1
 ·obtain ⟨⟨x, y⟩, hp, he⟩ := List.mem_map.1 h1
  cases he
  exact .inl (to_of_mem (ok_spec h.hN).1 hp)
 ·exact .inr h1
theorem Came.at_start (h : Came G c σ w N F c2 σ2 w2 B M) {b : Nat} (hb : (c.start w N F).at_ b) : ∃ a l sub sh e, N.to a = some l ∧ c.m (a, sub) = some (some (b, sh, e)) := by
 obtain ⟨⟨j, sub⟩, sh, e, hk⟩ := hb
 obtain ⟨a, ha, e1⟩ := ren_some (c := c) (N := N) (by unfold Cx.start at hk; rw [hk]; simp)
 unfold Cx.start at hk
 rw [e1] at hk
 exact ⟨a, j, sub, sh, e, (to_fro h.hN).2 ha, hk⟩
theorem Came.at2 (h : Came G c σ w N F c2 σ2 w2 B M) {b : Nat} (hb : c2.at_ b) (hlt : b < w.heap.size) : ∃ a l sub sh e, N.to a = some l ∧ c.m (a, sub) = some (some (b, sh, e)) := by
 rcases h.hFr.new b hb with h1 | h1
 ·exact h.at_start h1
 ·omega
theorem Came.m2 (h : Came G c σ w N F c2 σ2 w2 B M) {a l : Id} (ha : N.to a = some l) (sub : Option Nat) : c2.m (l, sub) = none ∨ c2.m (l, sub) = c.m (a, sub) := by
 obtain ⟨_, i, rfl⟩ := h.lent a l ha
 have hfro := (to_fro h.hN).1 ha
 rcases h.hFr.m i sub (by simp only [Cx.start, Cx.ren, hfro, Option.isSome]) with h1 | h1
 ·exact .inl h1
 ·exact .inr (by rw [h1]; exact ren_m hfro sub)
theorem Came.ext (h : Came G c σ w N F c2 σ2 w2 B M) (K : Id → Prop) : Ext c w (c.back c2 B K) w2 where
 base := rfl
 S := rfl
 size := h.hFr.size
 kn := fun id hi => .inl hi
 m := fun id sub hk => by
  cases hf : B.fro id with
  | some l =>
   rw [back_some hf]
   rcases h.cases hf with h1 | h1
   ·exact h.m2 h1 sub
   ·have := h.new l id h1
    rw [h.hR.kn, this] at hk
    cases hk
  | none =>
   by_cases hK : K id
   ·exact .inl (back_kill hf hK sub)
   ·exact .inr (back_none hf hK sub)
 new := fun b ⟨⟨id, sub⟩, sh, e, hk⟩ => by
  rcases back_cases (by rw [hk]; simp) with ⟨l, _, e1⟩ | ⟨_, _, e1⟩
  ·rw [e1] at hk
   rcases h.hFr.new b ⟨_, _, _, hk⟩ with h1 | h1
   ·obtain ⟨a, l', s, sh', e', _, hm⟩ := h.at_start h1
    exact .inl ⟨_, _, _, hm⟩
   ·exact .inr h1
  ·rw [e1] at hk
   exact .inl ⟨_, _, _, hk⟩
 keep := fun b hb hn => h.hFr.keep b hb fun hc => by
  obtain ⟨a, l', s, sh', e', _, hm⟩ := h.at_start hc
  exact hn ⟨_, _, _, hm⟩
 shape := h.hFr.shape
 os := h.hFr.os
 tape := h.hFr.tape
 output := h.hFr.output
end
end
end Go.Ev
namespace Go.Ev
open Go Go.RowKit
section
variable {G : Cfg} {c c' : Cx} {σ σ' : Store} {w w' : World} {P : Program}
variable {N B M : Names} {F : Id → Prop} {c2 : Cx} {σ2 : Store} {w2 : World}
theorem Came.ok (h : Came G c σ w N F c2 σ2 w2 B M) {K : Id → Prop} (hFK : ∀ id, F id → K id) (hfr : ∀ id, F id → ∃ b, σ.get? id = some b ∧ b.fr = true) : ∀ b, c2.ok w2 b → (c.back c2 B K).ok w2 b := by
 intro b hb
 rcases hb with hb | ⟨h1, h2, h3⟩
 ·rw [h.hFr.S] at hb
  rcases hb with hb | ⟨id, sub, sh, e, hF, hm⟩
  ·exact (h.ext K).ok hb
  ·obtain ⟨blk, hg, hf⟩ := hfr id hF
   have hlt := h.hR.lt b ⟨_, _, _, hm⟩
   refine .inr ⟨fr_base h.hR hg hf sub b sh e hm, Nat.lt_of_lt_of_le hlt h.hFr.size, ?_⟩
   rintro ⟨⟨id', s⟩, sh', e', hk⟩
   rcases back_cases (by rw [hk]; simp) with ⟨l, hf', e1⟩ | ⟨hf', hK, e1⟩
   ·rw [e1] at hk
    obtain ⟨a, l', s2, sh2, e2, ha, hm2⟩ := h.at2 ⟨_, _, _, hk⟩ hlt
    have hae : a = id := congrArg Prod.fst (h.hR.inj _ _ _ _ _ _ _ hm2 hm)
    rw [hae, h.hF id hF] at ha
    cases ha
   ·rw [e1] at hk
    have hie : id' = id := congrArg Prod.fst (h.hR.inj _ _ _ _ _ _ _ hk hm)
    exact hK (hie ▸ hFK id hF)
 ·have hb2 : c2.base = w.heap.size := h.hFr.base
  refine .inr ⟨?_, h2, ?_⟩
  ·have := h.hR.base
   show c.base ≤ b
   omega
  ·rintro ⟨⟨id', s⟩, sh', e', hk⟩
   rcases back_cases (by rw [hk]; simp) with ⟨l, hf', e1⟩ | ⟨hf', hK, e1⟩
   ·rw [e1] at hk; exact h3 ⟨_, _, _, hk⟩
   ·rw [e1] at hk
    have := h.hR.lt b ⟨_, _, _, hk⟩
    omega
theorem frAll_mem {σ : Store} : ∀ {N : Names} {a l : Id}, frAll σ N = true → (a, l) ∈ N → ∃ b, σ.get? a = some b ∧ b.fr = true
 | (a', l') :: r, a, l, h, hm => by
  simp only [frAll, Bool.and_eq_true] at h
  rcases List.mem_cons.1 hm with hm | hm
  ·injection hm with h1 h2
   subst h1
   cases hg : σ.get? a with
   | none => rw [hg] at h; simp at h
   | some b => rw [hg] at h; exact ⟨b, rfl, by simpa using h.1⟩
  ·exact frAll_mem h.2 hm
theorem upFr_ren (q : Bool) (B : Names) (b : Blk) : upFr q (b.ren B) = { b.ren B with fr := b.fr || q } := by
 unfold upFr Blk.ren
 split <;> rfl
theorem Came.rel (h : Came G c σ w N F c2 σ2 w2 B M) {K : Id → Prop} {τ : Store} (hK : ∀ id, K id → F id) (hsafe : immIn σ2 B = false ∨ ∀ b, c2.ok w2 b → (c.back c2 B K).ok w2 b)
  (hhas : ∀ j, τ.has j = true ↔ σ.has j = true ∨ j ∈ M.map (·.2)) (hkill : ∀ j, K j → τ.get? j = none) (hkeep : ∀ j, B.fro j = none → ¬ K j → τ.get? j = σ.get? j)
  (hlent : ∀ a l, N.to a = some l → τ.get? a = (σ2.get? l).bind fun b => (σ.get? a).map fun b0 => { b.ren B with fr := b0.fr }) {fq : Bool} (hq : fq = true → frAll σ N = true) (hnew : ∀ l j, (l, j) ∈ M → τ.get? j = (σ2.get? l).map fun b => upFr fq (b.ren B)) :
  Rel G (c.back c2 B K) τ w2 := by
 have hE := h.ext K
 have hk : ∀ id j, B.to id = some j → c2.kn id → (c.back c2 B K).kn j ∧ ∀ sub, (c.back c2 B K).m (j, sub) = none ∨ (c.back c2 B K).m (j, sub) = c2.m (id, sub) := by
  intro id j hj _
  rw [to_fro h.hB] at hj
  exact ⟨.inr (by rw [hj]; rfl), fun sub => .inr (back_some hj sub)⟩
 have hFfro : ∀ id, F id → (σ.get? id).isSome = true → B.fro id = none := by
  intro id hF hg
  cases hf : B.fro id with
  | none => rfl
  | some l =>
   rcases h.cases hf with h1 | h1
   ·rw [h.hF id hF] at h1; cases h1
   ·have := h.new l id h1
    cases hg2 : σ.get? id with
    | none => rw [hg2] at hg; cases hg
    | some b => rw [has_of_get hg2] at this; cases this
 refine ⟨?_, ?_, ?_, ?_, ?_, ?_, ?_, ?_, know_ext h.hR hE⟩
 ·rintro ⟨id, s⟩ ⟨id', s'⟩ b sh e sh' e' h1 h2
  rcases back_cases (by rw [h1]; simp) with ⟨l, hf, e1⟩ | ⟨hf, hK1, e1⟩ <;> rcases back_cases (by rw [h2]; simp) with ⟨l', hf', e2⟩ | ⟨hf', hK2, e2⟩ <;> rw [e1] at h1 <;> rw [e2] at h2
  ·have := h.hR2.inj _ _ _ _ _ _ _ h1 h2
   cases this
   rw [← to_fro h.hB] at hf hf'
   rw [hf] at hf'
   cases hf'
   rfl
  ·have hlt := h.hR.lt b ⟨_, _, _, h2⟩
   obtain ⟨a, l2, s2, sh2, ee2, ha, hm2⟩ := h.at2 ⟨_, _, _, h1⟩ hlt
   have hae : a = id' := congrArg Prod.fst (h.hR.inj _ _ _ _ _ _ _ hm2 h2)
   rw [hae] at ha
   rw [h.fro_lent ha] at hf'
   cases hf'
  ·have hlt := h.hR.lt b ⟨_, _, _, h1⟩
   obtain ⟨a, l2, s2, sh2, ee2, ha, hm2⟩ := h.at2 ⟨_, _, _, h2⟩ hlt
   have hae : a = id := congrArg Prod.fst (h.hR.inj _ _ _ _ _ _ _ hm2 h1)
   rw [hae] at ha
   rw [h.fro_lent ha] at hf
   cases hf
  ·exact h.hR.inj _ _ _ _ _ _ _ h1 h2
 ·rintro b ⟨⟨id, s⟩, sh, e, hm⟩
  rcases back_cases (by rw [hm]; simp) with ⟨l, hf, e1⟩ | ⟨hf, hK1, e1⟩ <;> rw [e1] at hm
  ·exact h.hR2.lt b ⟨_, _, _, hm⟩
  ·exact Nat.lt_of_lt_of_le (h.hR.lt b ⟨_, _, _, hm⟩) h.hFr.size
 ·intro j
  rw [hhas]
  show (c.kn j ∨ (B.fro j).isSome = true) ↔ _
  rw [h.hR.kn j]
  constructor
  ·rintro (h1 | h1)
   ·exact .inl h1
   ·obtain ⟨l, hl⟩ := Option.isSome_iff_exists.1 h1
    rcases h.cases hl with h2 | h2
    ·obtain ⟨b, hb⟩ := Option.isSome_iff_exists.1 (h.lent j l h2).1
     exact .inl (has_of_get hb)
    ·exact .inr (List.mem_map.2 ⟨_, h2, rfl⟩)
  ·rintro (h1 | h1)
   ·exact .inl h1
   ·obtain ⟨⟨l, j'⟩, hp, he⟩ := List.mem_map.1 h1
    simp only at he
    subst he
    right
    have : B.to l = some j' := to_of_mem (ok_spec h.hB).1 (by rw [h.split]; exact List.mem_append.2 (.inr hp))
    rw [(to_fro h.hB).1 this]
    rfl
 ·intro id sub hm
  rcases back_cases hm with ⟨l, hf, e1⟩ | ⟨hf, hK1, e1⟩ <;> rw [e1] at hm
  ·obtain ⟨blk, k1, k2⟩ := h.hR2.dom l sub hm
   rcases h.cases hf with h2 | h2
   ·obtain ⟨b0, hb0⟩ := Option.isSome_iff_exists.1 (h.lent id l h2).1
    refine ⟨{ blk.ren B with fr := b0.fr }, by rw [hlent id l h2, k1, hb0]; rfl, fun p hp => ?_⟩
    obtain ⟨q1, e, n, xs, q2⟩ := k2 p hp
    exact ⟨by simp [Blk.ren, q1], e, n, xs, by simpa [Blk.ren, q1] using q2⟩
   ·refine ⟨upFr fq (blk.ren B), by rw [hnew l id h2, k1]; rfl, fun p hp => ?_⟩
    obtain ⟨q1, e, n, xs, q2⟩ := k2 p hp
    exact ⟨by simp [upFr, Blk.ren, q1], e, n, xs, by simpa [upFr, Blk.ren, q1] using q2⟩
  ·obtain ⟨blk, k1, k2⟩ := h.hR.dom id sub hm
   exact ⟨blk, by rw [hkeep id hf hK1]; exact k1, k2⟩
 ·intro id blk' hg
  have himm : ∀ l b, B.fro id = some l → σ2.get? l = some b → AV.immL b.cells = false ∨ ∀ b, c2.ok w2 b → (c.back c2 B K).ok w2 b := by
   intro l b hf hb
   rcases hsafe with hs | hs
   ·exact .inl (immIn_mem B l id b hs (to_mem ((to_fro h.hB).2 hf)) hb)
   ·exact .inr hs
  cases hf : B.fro id with
  | some l =>
   rcases h.cases hf with h2 | h2
   ·rw [hlent id l h2] at hg
    obtain ⟨b, hb, hg⟩ := Option.bind_eq_some_iff.1 hg
    obtain ⟨b0, hb0, rfl⟩ := Option.map_eq_some_iff.1 hg
    refine BlkOk_ren hk (himm l b hf hb) (back_some hf) (fun hfr sub b' sh e hm => ?_) (h.hR2.blk l b hb)
    rcases h.m2 h2 sub with h3 | h3
    ·rw [h3] at hm; cases hm
    ·rw [h3] at hm; exact fr_base h.hR hb0 hfr sub b' sh e hm
   ·rw [hnew l id h2] at hg
    obtain ⟨b, hb, rfl⟩ := Option.map_eq_some_iff.1 hg
    rw [upFr_ren]
    refine BlkOk_ren hk (himm l b hf hb) (back_some hf) (fun hfr sub b' sh e hm => ?_) (h.hR2.blk l b hb)
    have h5 : c2.base = w.heap.size := h.hFr.base
    have h6 := h.hR.base
    show c.base ≤ b'
    rcases Bool.or_eq_true_iff.1 hfr with hfr | hfr
    ·have h4 := fr_base h.hR2 hb hfr sub b' sh e hm
     omega
    ·by_cases hlt : b' < w.heap.size
     ·obtain ⟨a, l2, s2, sh2, ee2, ha, hm2⟩ := h.at2 ⟨_, _, _, hm⟩ hlt
      obtain ⟨b0, hb0, hf0⟩ := frAll_mem (hq hfr) (to_mem ha)
      exact fr_base h.hR hb0 hf0 _ _ _ _ hm2
     ·omega
  | none =>
   by_cases hK1 : K id
   ·rw [hkill id hK1] at hg; cases hg
   ·rw [hkeep id hf hK1] at hg
    refine BlkOk_ext hE h.hR.Sok h.hR.lt (fun sub => back_none hf hK1 sub) (fun sub b sh e hm => ?_) (h.hR.blk id blk' hg)
    refine h.hFr.keep b (h.hR.lt b ⟨_, _, _, hm⟩) fun hc => ?_
    obtain ⟨a, l2, s2, sh2, ee2, ha, hm2⟩ := h.at_start hc
    have hae : a = id := congrArg Prod.fst (h.hR.inj _ _ _ _ _ _ _ hm2 hm)
    rw [hae] at ha
    rw [h.fro_lent ha] at hf
    cases hf
 ·intro b hb
  obtain ⟨h1, h2⟩ := h.hR.sS b hb
  refine ⟨h1, ?_⟩
  rintro ⟨⟨id, s⟩, sh, e, hm⟩
  rcases back_cases (by rw [hm]; simp) with ⟨l, hf, e1⟩ | ⟨hf, hK1, e1⟩ <;> rw [e1] at hm
  ·obtain ⟨a, l2, s2, sh2, ee2, ha, hm2⟩ := h.at2 ⟨_, _, _, hm⟩ (Nat.lt_of_lt_of_le h1 h.hR.base)
   exact h2 ⟨_, _, _, hm2⟩
  ·exact h2 ⟨_, _, _, hm⟩
 ·exact Nat.le_trans h.hR.base h.hFr.size
 ·intro g cs hg
  obtain ⟨h1, h2⟩ := h.hR.glob g cs hg
  exact ⟨h1, VCs_mono (hE.stable h.hR.Sok) _ _ _ (hE.stable h.hR.Sok g (.inl h1)).2 h2⟩
end
end Go.Ev
namespace Go.Ev
open Go Go.RowKit
section
variable {G : Cfg} {c c' : Cx} {σ σ' : Store} {w w' : World} {P : Program}
theorem callBack_run {fz : Bool} {N : Names} {frozen : List Id} {t : Nat} {q : AV × Store} {e : Eff} {c2 : Cx} {w2 : World} {rv : Value} (hR : Rel G c σ w) (hN : N.ok = true) (hF : ∀ id, id ∈ frozen → N.to id = none)
  (hlent : ∀ a l, N.to a = some l → (σ.get? a).isSome = true ∧ ∃ i, l = .l i) (hR2 : Rel G c2 q.2 w2) (hFr : Fr (c.start w N (fun id => id ∈ frozen)) w c2 w2) (hv : VR c2 w2 q.1 rv)
  (h : callBack fz σ t N frozen q (backNames q.2 t N q.1) = some e) : ∃ c', Rel G c' e.σ w2 ∧ Ext c w c' w2 ∧ VR c' w2 e.val rv := by
 obtain ⟨M, hM⟩ : ∃ M, backNames q.2 t N q.1 = (N.map fun p => (p.2, p.1)) ++ M := collect_pre _ _
 generalize backNames q.2 t N q.1 = B at h hM
 unfold callBack at h
 split at h
 ·cases h
 ·rename_i hB
  have hB' : B.ok = true := by simpa using hB
  obtain ⟨σ3, h3, h⟩ := Option.bind_eq_some_iff.1 h
  have hdrop : B.drop N.length = M := by rw [hM, List.drop_left' (by simp)]
  rw [hdrop] at h3
  obtain ⟨a1, a2, a3⟩ := addNew_run M _ _ h3
  have hcame : Came G c σ w N (fun id => id ∈ frozen) c2 q.2 w2 B M := ⟨hR, hN, hF, hlent, hR2, hFr, hB', hM, fun l j hm => by rw [← backLent_has N σ j]; exact (a3 l j hm).1⟩
  have hhas : ∀ j, σ3.has j = true ↔ σ.has j = true ∨ j ∈ M.map (·.2) := fun j => by rw [a1, backLent_has]
  have hMn : ∀ j, j ∈ M.map (·.2) → σ.has j = false := by
   intro j hj
   obtain ⟨⟨l, j'⟩, hp, he⟩ := List.mem_map.1 hj
   simp only at he
   subst he
   exact hcame.new l j' hp
  have hl3 : ∀ a l, N.to a = some l → σ3.get? a = (q.2.get? l).bind fun b => (σ.get? a).map fun b0 => { b.ren B with fr := b0.fr } := by
   intro a l ha
   rw [a2 a (fun hm => by
    have := hMn a hm
    obtain ⟨b, hb⟩ := Option.isSome_iff_exists.1 (hlent a l ha).1
    rw [has_of_get hb] at this
    cases this)]
   exact backLent_mem N σ a l (ok_spec hN).1 (to_mem ha)
  have hk3 : ∀ j, B.fro j = none → σ3.get? j = σ.get? j := by
   intro j hj
   rw [a2 j (fun hm => by
    obtain ⟨⟨l, j'⟩, hp, he⟩ := List.mem_map.1 hm
    simp only at he
    subst he
    have : B.to l = some j' := to_of_mem (ok_spec hB').1 (by rw [hM]; exact List.mem_append.2 (.inr hp))
    rw [(to_fro hB').1 this] at hj
    cases hj)]
   refine backLent_ne N σ j fun hm => ?_
   obtain ⟨⟨a, l⟩, hp, he⟩ := List.mem_map.1 hm
   simp only at he
   subst he
   rw [hcame.fro_lent (to_of_mem (ok_spec hN).1 hp)] at hj
   cases hj
  have hvr : ∀ K : Id → Prop, (q.1.imm = false ∨ ∀ b, c2.ok w2 b → (c.back c2 B K).ok w2 b) → VR (c.back c2 B K) w2 (q.1.ren B) rv := by
   intro K hi
   refine VR_ren (fun id j hj _ => ?_) _ _ hi hv
   rw [to_fro hB'] at hj
   exact ⟨.inr (by rw [hj]; rfl), fun sub => .inr (back_some hj sub)⟩
  split at h
  ·rename_i hc
   split at h
   ·rename_i hall
    cases h
    have hfr : ∀ id, id ∈ frozen → ∃ b, σ.get? id = some b ∧ b.fr = true := by
     intro id hid
     have := List.all_eq_true.1 hall id hid
     cases hg : σ.get? id with
     | none => rw [hg] at this; simp at this
     | some b => rw [hg] at this; exact ⟨b, rfl, by simpa using this⟩
    have hok := hcame.ok (K := fun id => id ∈ frozen) (fun _ h => h) hfr
    refine ⟨c.back c2 B fun id => id ∈ frozen, ?_, hcame.ext _, hvr _ (.inr hok)⟩
    refine hcame.rel (fun _ h => h) (.inr hok) (fun j => by rw [delAll_has]; exact hhas j) (fun j hj => by rw [delAll_get, if_pos hj]) (fun j hj hK => by rw [delAll_get, if_neg hK]; exact hk3 j hj)
     (fun a l ha => ?_) (fq := frAll σ N) (fun h => h) (fun l j hm => ?_)
    ·rw [delAll_get, if_neg (fun hm => by rw [hF a hm] at ha; cases ha)]
     exact hl3 a l ha
    ·rw [delAll_get, if_neg (fun hm' => by
      obtain ⟨b, hb, _⟩ := hfr j hm'
      have := hcame.new l j hm
      rw [has_of_get hb] at this
      cases this)]
     exact (a3 l j hm).2
   ·cases h
  ·rename_i hc
   cases h
   have hsafe : (q.1.imm = false ∧ immIn q.2 B = false) ∨ ∀ b, c2.ok w2 b → (c.back c2 B fun _ => False).ok w2 b := by
    cases hfe : frozen with
    | nil => exact .inr (hcame.ok (K := fun _ => False) (fun id hid => by rw [hfe] at hid; cases hid) (fun id hid => by rw [hfe] at hid; cases hid))
    | cons x r =>
     rw [hfe] at hc
     simp only [List.isEmpty_cons, Bool.not_false, Bool.true_and, Bool.not_eq_true, Bool.or_eq_false_iff] at hc
     exact .inl hc.2
   refine ⟨c.back c2 B fun _ => False, ?_, hcame.ext _, hvr _ (hsafe.imp (·.1) (fun h => h))⟩
   exact hcame.rel (fun _ h => h.elim) (hsafe.imp (·.2) (fun h => h)) hhas (fun _ h => h.elim) (fun j hj _ => hk3 j hj) hl3 (fq := frAll σ N) (fun h => h) (fun l j hm => (a3 l j hm).2)
theorem callA_run {C : Oracle} (hC : CallOk G C) (hR : Rel G c σ w) {f : FuncId} {args : List AV} {vals : List Value} {t : Nat} {e : Eff} (hv : VRt c w args vals) (h : callA G C σ f args t = some e) :
  Calls G.P f vals.toArray w fun en w' => ∃ rv c', en = .returned rv ∧ Rel G c' e.σ w' ∧ Ext c w c' w' ∧ VR c' w' e.val rv := by
 have hlent : ∀ a l, (collect σ .l (lentRefs (G.lend f) 0 args) []).2.to a = some l → (σ.get? a).isSome = true ∧ ∃ i, l = .l i := by
  intro a l ha
  rcases collect_is _ _ _ (to_mem ha) with h1 | h1
  ·cases h1
  ·exact h1
 unfold callA at h
 obtain ⟨e0, h0, rfl⟩ := Option.map_eq_some_iff.1 h
 clear h
 have h := h0
 clear h0
 generalize (collect σ .l (lentRefs (G.lend f) 0 args) []).2 = N at h hlent
 unfold callIn at h
 split at h
 ·cases h
 ·rename_i hN
  have hN' : N.ok = true := by simpa using hN
  obtain ⟨p, hp, h⟩ := Option.bind_eq_some_iff.1 h
  split at h
  ·cases h
  ·rename_i hany
   obtain ⟨q, hq, h⟩ := Option.bind_eq_some_iff.1 h
   have hF : ∀ id, id ∈ p.2 → N.to id = none := by
    intro id hid
    cases hh : N.to id with
    | none => rfl
    | some l => exact absurd (List.any_eq_true.2 ⟨id, hid, by rw [hh]; rfl⟩) hany
   have h1 := start_run (w := w) hR hN' (F := fun id => id ∈ p.2) hF
   have h2 := passAll_run (F := fun id => id ∈ p.2) hR hN' 0 args p.1 p.2 vals hp (fun _ h => h) hv
   refine Calls.mono (hC f p.1 _ q.1 q.2 hq _ w vals h1 h2) ?_
   rintro en w2 ⟨rv, c2, rfl, k1, k2, k3⟩
   obtain ⟨c', m1, m2, m3⟩ := callBack_run hR hN' hF hlent k1 k3 k2 h
   exact ⟨rv, c', rfl, m1, m2, m3⟩
end
end Go.Ev
namespace Go.Ev
open Go Go.RowKit
section
variable {G : Cfg} {c c' : Cx} {σ σ' : Store} {w w' : World} {P : Program}
def NoCount (P : Program) : Prop := ∀ (f : FuncId) (fn : Func), P.funcs[f]? = some fn → (fn.name == "runtime.NumGoroutine") = false
theorem len_tys {tys : Array TypeId} {t ty : TypeId} {args : Array Value} (h : tys[0]? = some t) : Builtin.len_ tys ty args = Builtin.len_ #[t] ty args := by
 unfold Builtin.len_
 rw [h]
 rfl
theorem append_tys {tys : Array TypeId} {t u ty : TypeId} {args : Array Value} (h : tys[0]? = some t) (h1 : tys[1]? = some u) : Builtin.append_ tys ty args = Builtin.append_ #[t, u] ty args := by
 unfold Builtin.append_
 rw [h, h1]
 rfl
theorem evOp_run {C : Oracle} (hC : CallOk G C) (hP : NoCount G.P) : OpsOk G C := by
 intro f o ts σ e h c a w hR ht K Q hK
 unfold evOp at h
 split at h
 ·rename_i cl hop
  unfold evCall at h
  have hargs := VRt_opds hR ht cl.args.toList
  split at h
  ·-- a function's value
   rename_i x hcl
   unfold evCallee at h
   split at h
   ·rename_i g caps hx
    have hv := VR_opd hR ht x
    rw [hx] at hv
    simp only [VR] at hv
    obtain ⟨us, hv, hus⟩ := hv
    split at h
    ·rename_i fn hf
     split at h
     ·cases h
     ·rename_i hb
      obtain ⟨body, hbody⟩ : ∃ k, fn.body = some k := by
       cases hh : fn.body with
       | none => rw [hh] at hb; exact absurd rfl hb
       | some k => exact ⟨k, rfl⟩
      have hcall := callA_run hC hR (VRt_append hargs hus) h
      have hname := hP g fn hf
      have hname' : fn.name ≠ "runtime.NumGoroutine" := by simpa using hname
      have hrun : (execOp a.eval o).run G.P w = .ok (.enter g (cl.args.toList.map a.eval ++ us.toList).toArray) w := by
       unfold execOp
       simp [hop, resolve, hcl, hv, Deferred.ofValue, invoke, callFunc, hf, hname', hbody]
      unfold Oper.wp
      rw [hrun, Oper.upon_enter]
      refine Calls.mono hcall ?_
      rintro en w2 ⟨rv, c', rfl, h1, h2, h3⟩
      exact hK c' w2 rv h1 h2 h3
    ·cases h
   ·cases h
  ·-- a builtin
   rename_i b hcl
   have hwp : ∀ {c' w' v}, (∀ q, (builtin b cl.argTypes o.type q (cl.args.map a.eval)).run G.P w = .ok (.value v) w') → Rel G c' e.σ w' → Ext c w c' w' → VR c' w' e.val v → o.wp G.P a w K Q := by
    intro c' w' v hrun h1 h2 h3
    unfold Oper.wp execOp
    simp only [hop, resolve, hcl, invoke, Sem.run_bind, Sem.run_pure, Result.andThen_ok]
    rw [hrun _]
    exact hK c' w' v h1 h2 h3
   have hva : cl.args.map a.eval = (cl.args.toList.map a.eval).toArray := by
    apply Array.ext'
    simp
   rw [hva] at hwp
   generalize cl.args.toList.map a.eval = vals at hargs hwp
   generalize cl.args.toList.map (evOpd G ts) = avs at hargs h
   unfold evBuiltin at h
   split at h
   ·split at h
    ·rename_i ty x hty
     unfold pure_ at h
     obtain ⟨r, hr, rfl⟩ := Option.map_eq_some_iff.1 h
     cases vals with
     | nil => simp [VRt] at hargs
     | cons u us =>
      cases us with
      | cons _ _ => simp [VRt] at hargs
      | nil =>
       simp only [VRt] at hargs
       obtain ⟨v, h1, h2⟩ := lenA_run (P := G.P) (ty := o.type) hr hargs.1
       refine hwp (v := v) (fun q => ?_) hR (Ext.refl c w) h2
       unfold builtin
       simp only [Sem.run_bind, len_tys hty, h1, Result.andThen_ok, Sem.run_pure]
    ·cases h
   ·split at h
    ·rename_i ty tx s x hty htx
     split at h
     ·cases h
     ·rename_i u hne hu
      cases vals with
      | nil => simp [VRt] at hargs
      | cons v1 us =>
       cases us with
       | nil => simp [VRt] at hargs
       | cons v2 us =>
        cases us with
        | cons _ _ => simp [VRt] at hargs
        | nil =>
         simp only [VRt] at hargs
         obtain ⟨c', w', v, h1, h2, h3, h4⟩ := evAppend_run (ty := o.type) hR hu (fun k hk => hne k hk) h hargs.1 (hR.knv hargs.2.1)
         refine hwp (v := v) (fun q => ?_) h2 h3 h4
         unfold builtin
         simp only [Sem.run_bind, append_tys hty htx, h1, Result.andThen_ok, Sem.run_pure]
     ·cases h
    ·cases h
   ·unfold pure_ at h
    obtain ⟨r, hr, rfl⟩ := Option.map_eq_some_iff.1 h
    obtain ⟨v, h1, h2⟩ := mm_run (P := G.P) (tys := cl.argTypes) (ty := o.type) hr hargs
    refine hwp (v := v) (fun q => ?_) hR (Ext.refl c w) h2
    simp only [if_true] at h1
    unfold builtin
    simp only [Sem.run_bind, h1, Result.andThen_ok, Sem.run_pure]
   ·unfold pure_ at h
    obtain ⟨r, hr, rfl⟩ := Option.map_eq_some_iff.1 h
    obtain ⟨v, h1, h2⟩ := mm_run (P := G.P) (tys := cl.argTypes) (ty := o.type) hr hargs
    refine hwp (v := v) (fun q => ?_) hR (Ext.refl c w) h2
    simp only [Bool.false_eq_true, if_false] at h1
    unfold builtin
    simp only [Sem.run_bind, h1, Result.andThen_ok, Sem.run_pure]
   ·cases h
  ·cases h
 ·rename_i hne
  exact wp_of_OpOk (evOp1_run hR ht h) hK
end
end Go.Ev
namespace Go.Ev
open Go Go.RowKit
section
variable {G : Cfg} {c c' : Cx} {σ σ' : Store} {w w' : World} {P : Program}
def DrawOk (G : Cfg) : Prop := ∀ C : Oracle, OpsOk G C → ∀ (f : FuncId) (ops : Array Oper) (id : Nat) (s s' : St), evRegion G C f ops true s = some s' →
 ∀ (c : Cx) (a : Act) (w : World), Rel G c s.σ w → VRt c w s.ts a.tmps.toList → ∀ (Q : Exit → Act → World → Prop),
  (∀ c' a' w', Rel G c' s'.σ w' → VRt c' w' s'.ts a'.tmps.toList → Fr c w c' w' → a'.defers = a.defers → Q .normal a' w') → (Code.region id ops true).wp G.P Q a w
theorem reg_of_ops {C : Oracle} (hD : DrawOk G) (h : OpsOk G C) : RegOk G C := by
 intro f ops id draw s s' he c a w hR ht Q hQ
 cases draw with
 | false => exact evRegion_run h he hR ht hQ
 | true => exact hD C h f ops id s s' he c a w hR ht Q hQ
theorem step_ok (hP : NoCount G.P) (hE : ExtOk G) (hD : DrawOk G) : ∀ k, CallOk G (callN G k) ∧ RoundsOk G (loopN G k) k
 | 0 => by
  refine ⟨fun f args σ res σ' h => ?_, fun f b s ex s' h => ?_⟩
  ·unfold callN at h; cases h
  ·unfold loopN at h; cases h
 | k + 1 => by
  obtain ⟨h1, h2⟩ := step_ok hP hE hD k
  have hreg : RegOk G (callN G k) := reg_of_ops hD (evOp_run h1 hP)
  refine ⟨?_, ?_⟩
  ·have := callBody_run hE hreg (LoopOk.of h2)
   unfold callN
   exact this
  ·have := loopBody_run hreg h2
   unfold loopN
   exact this
theorem call_run (hP : NoCount G.P) (hE : ExtOk G) (hD : DrawOk G) : CallOk G (call G) := by
 intro f args σ res σ' h c w vals hR hv
 obtain ⟨k, hk⟩ := call_some.1 h
 exact (step_ok hP hE hD k).1 f args σ res σ' hk c w vals hR hv
end
end Go.Ev
namespace Go.Ev
open Go Go.RowKit
section
variable {G : Cfg} {c c' : Cx} {σ σ' : Store} {w w' : World} {P : Program}
theorem Rel.same (h : Rel G c σ w) (hs : Store.same σ σ') : Rel G c σ' w where
 inj := h.inj
 lt := h.lt
 kn := fun id => by rw [← (hs id).2]; exact h.kn id
 dom := fun id sub hm => by
  obtain ⟨b, h1, h2⟩ := h.dom id sub hm
  exact ⟨b, by rw [← (hs id).1]; exact h1, h2⟩
 blk := fun id b hb => h.blk id b (by rw [(hs id).1]; exact hb)
 sS := h.sS
 base := h.base
 glob := h.glob
 know := h.know
def AllOk (G : Cfg) (C : Oracle) (f : FuncId) (ops : Array Oper) (fin : St) : Nat → Array Bool → St → Prop
 | 0, listed, s => Region.ready .any ops listed = [] ∧ s.ts = fin.ts ∧ s.σ.same fin.σ
 | n + 1, listed, s => (Region.ready .any ops listed = [] → s.ts = fin.ts ∧ s.σ.same fin.σ) ∧
  ∀ i ∈ Region.ready .any ops listed, ∃ s' fp, evStep G C f ops i s = some (s', fp) ∧ AllOk G C f ops fin n (listed.setIfInBounds i true) s'
theorem evStep_run {C : Oracle} (hC : OpsOk G C) {f : FuncId} {ops : Array Oper} {i : Nat} {s s' : St} {fp : List Id × List Id} (h : evStep G C f ops i s = some (s', fp)) {a : Act} (hR : Rel G c s.σ w) (ht : VRt c w s.ts a.tmps.toList) {K : Act → World → Prop} {Q : Exit → Act → World → Prop}
  (hK : ∀ c' a' w', Rel G c' s'.σ w' → VRt c' w' s'.ts a'.tmps.toList → Ext c w c' w' → a'.defers = a.defers → K a' w') : wpOp G.P ops Q i K a w := by
 unfold evStep at h
 unfold wpOp
 split at h
 ·rename_i ho
  cases h
  simp only [ho]
  exact hK c a w hR ht (Ext.refl c w) rfl
 ·rename_i o ho
  simp only [ho]
  split at h
  ·rename_i hw
   obtain ⟨e, he, h⟩ := Option.map_eq_some_iff.1 h
   cases h
   rw [wanted_run hw ht, if_pos rfl]
   exact .inl (hC f o s.ts s.σ e he c a w hR ht _ _ fun c1 w1 v h1 h2 h3 => hK c1 _ w1 h1 (VRt_put (hR.vrt h2 ht) h3 o.dst) h2 (put_defers _ _ _))
  ·rename_i hw
   cases h
   rw [wanted_run hw ht, if_neg (by simp)]
   exact hK c _ w hR (VRt_put ht (VR_sc.2 rfl) o.dst) (Ext.refl c w) (put_defers _ _ _)
  ·cases h
theorem AllOk.wpAny {C : Oracle} (hC : OpsOk G C) {f : FuncId} {ops : Array Oper} {fin : St} {Q : Exit → Act → World → Prop} : ∀ (n : Nat) (listed : Array Bool) (s : St), AllOk G C f ops fin n listed s →
  ∀ (c : Cx) (a : Act) (w : World), Rel G c s.σ w → VRt c w s.ts a.tmps.toList →
   (∀ c' a' w', Rel G c' fin.σ w' → VRt c' w' fin.ts a'.tmps.toList → Ext c w c' w' → a'.defers = a.defers → Q .normal a' w') → Go.wpAny G.P .any ops Q n listed a w
 | 0, listed, s, h, c, a, w, hR, ht, hQ => by
  obtain ⟨h1, h2, h3⟩ := h
  exact ⟨h1, hQ c a w (hR.same h3) (h2 ▸ ht) (Ext.refl c w) rfl⟩
 | n + 1, listed, s, h, c, a, w, hR, ht, hQ => by
  obtain ⟨h1, h2⟩ := h
  refine ⟨fun hr => ?_, fun i hi => ?_⟩
  ·obtain ⟨k1, k2⟩ := h1 hr
   exact hQ c a w (hR.same k2) (k1 ▸ ht) (Ext.refl c w) rfl
  ·obtain ⟨s', fp, hs', hrest⟩ := h2 i hi
   refine evStep_run hC hs' hR ht fun c1 a1 w1 k1 k2 k3 k4 => ?_
   exact AllOk.wpAny hC n _ s' hrest c1 a1 w1 k1 k2 fun c2 a2 w2 m1 m2 m3 m4 => hQ c2 a2 w2 m1 m2 (k3.trans m3) (m4.trans k4)
theorem Ext.drew (c : Cx) (w : World) : Ext c w c { w with drawn := w.drawn + 1 } :=
 ⟨rfl, rfl, Nat.le_refl _, fun _ h => h, fun _ _ _ => .inr rfl, fun _ h => .inl h, fun _ _ _ => rfl, fun _ _ => rfl, rfl, rfl, rfl⟩
theorem Rel.drew (h : Rel G c σ w) : Rel G c σ { w with drawn := w.drawn + 1 } where
 inj := h.inj
 lt := h.lt
 kn := h.kn
 dom := h.dom
 blk := fun id b hb => BlkOk_ext (Ext.drew c w) h.Sok h.lt (fun _ => rfl) (fun _ _ _ _ _ => rfl) (h.blk id b hb)
 sS := h.sS
 base := h.base
 glob := fun g cs hg => by
  obtain ⟨h1, h2⟩ := h.glob g cs hg
  exact ⟨h1, VCs_mono ((Ext.drew c w).stable h.Sok) _ _ _ rfl h2⟩
 know := know_ext h (Ext.drew c w)
theorem AllOk.region {C : Oracle} (hC : OpsOk G C) (hm : G.P.follows .mixedOrders = true) {f : FuncId} {ops : Array Oper} {id : Nat} {s fin : St} (h : AllOk G C f ops fin ops.size (Array.replicate ops.size false) s)
  {a : Act} (hR : Rel G c s.σ w) (ht : VRt c w s.ts a.tmps.toList) {Q : Exit → Act → World → Prop}
  (hQ : ∀ c' a' w', Rel G c' fin.σ w' → VRt c' w' fin.ts a'.tmps.toList → Fr c w c' w' → a'.defers = a.defers → Q .normal a' w') : (Code.region id ops true).wp G.P Q a w :=
 wp_region_any hm (AllOk.wpAny hC _ _ s h c a _ hR.drew (hR.vrt (Ext.drew c w) ht) fun c' a' w' k1 k2 k3 k4 => hQ c' a' w' k1 k2 (Fr.of ((Ext.drew c w).trans k3)) k4)
end
end Go.Ev
namespace Go.Ev
open Go Go.RowKit
section
variable {G : Cfg} {σ σ' : Store}
theorem evOp1_congr {inl : Bool} {e e' : Operand → AV} {σ : Store} {dst : Option Tmp} (op : Op) (h : ∀ x ∈ op.operands, e x = e' x) : evOp1 G inl e σ dst op = evOp1 G inl e' σ dst op := by
 have pairs : ∀ ps : Array (Nat × Operand), (∀ x ∈ ps.map (·.2), e x = e' x) → (ps.toList.map fun p => (p.1, e p.2)) = (ps.toList.map fun p => (p.1, e' p.2)) := fun ps hp =>
  List.map_congr_left fun p hm => by
   obtain ⟨i, x⟩ := p
   simp only [hp x (Array.mem_map.2 ⟨(i, x), by simpa using hm, rfl⟩)]
 cases op <;> simp only [Op.operands] at h <;> simp only [evOp1]
 case build t ps => rw [pairs ps fun x hx => h x (by simpa using hx)]
 case buildSlice t n ps => rw [pairs ps fun x hx => h x (by simpa using hx)]
 case makeFunc fn first captured =>
  rw [List.map_congr_left (l := captured.toList) fun x hx => h x (by simp; exact .inr (by simpa using hx))]
 case slice t x lo hi mx => cases lo <;> cases hi <;> cases mx <;> simp_all
 case pick c a b =>
  have h1 := h c (by simp)
  have h2 := h a (by simp)
  have h3 := h b (by simp)
  unfold evPick
  rw [h1, h2, h3]
 all_goals (first | rfl | (simp_all; done))
theorem evOpd_set {ts : List AV} {d : Tmp} {v : AV} {x : Operand} (h : x ≠ .tmp d) : evOpd G (ts.set d v) x = evOpd G ts x := by
 cases x with
 | tmp t =>
  have hne : d ≠ t := fun e => h (by rw [e])
  simp [evOpd, List.getD, List.getElem?_set_ne hne]
 | _ => rfl
theorem evOp_congr {C : Oracle} {f : FuncId} {ts ts' : List AV} {σ : Store} (o : Oper) (h : ∀ x ∈ o.op.operands, evOpd G ts x = evOpd G ts' x) : evOp G C f ts σ o = evOp G C f ts' σ o := by
 obtain ⟨dst, op, type, pos, after, guard⟩ := o
 simp only at h
 unfold evOp
 cases op with
 | call c =>
  simp only [Op.operands] at h
  have hargs : c.args.toList.map (evOpd G ts) = c.args.toList.map (evOpd G ts') := List.map_congr_left fun x hx => h x (by simp [Call.operands]; exact .inr (by simpa using hx))
  simp only [evCall, hargs]
  cases hc : c.callee with
  | value g => have hf := h g (by simp [Call.operands, hc]); simp only [hf]
  | invoke r m => rfl
  | builtin b => rfl
 | _ => exact evOp1_congr _ h
end
end Go.Ev
namespace Go.Ev
open Go Go.RowKit
section
variable {G : Cfg} {C : Oracle} {f : FuncId} {ops : Array Oper}
theorem evOp_put {ts : List AV} {σ : Store} (o : Oper) (dst : Option Tmp) (v : AV) (h : ∀ d, dst = some d → d ∉ o.looksAt ops) : evOp G C f (putT ts dst v) σ o = evOp G C f ts σ o := by
 cases dst with
 | none => rfl
 | some d =>
  refine evOp_congr o fun x hx => evOpd_set fun hxd => h d rfl ?_
  subst hxd
  exact List.mem_append_left _ (List.mem_filterMap.2 ⟨.tmp d, by simpa using hx, rfl⟩)
theorem wantedA_put {ts : List AV} (o : Oper) (dst : Option Tmp) (v : AV) (h : ∀ d, dst = some d → d ∉ o.looksAt ops) : wantedA ops.toList (putT ts dst v) o = wantedA ops.toList ts o := by
 cases dst with
 | none => rfl
 | some d =>
  unfold wantedA
  cases hg : o.guard with
  | none => rfl
  | some gw =>
   obtain ⟨g, want⟩ := gw
   simp only [Array.getElem?_toList]
   cases ht : (ops[g]?).bind (·.dst) with
   | none => rfl
   | some t =>
    have hne : d ≠ t := fun e => h d rfl (by subst e; simp [Oper.looksAt, hg, ht])
    simp [putT, List.getD, List.getElem?_set_ne hne]
theorem putT_comm (ts : List AV) {x y : Option Tmp} (v u : AV) (h : ∀ d, x = some d → y ≠ some d) : putT (putT ts x v) y u = putT (putT ts y u) x v := by
 cases x with
 | none => rfl
 | some d =>
  cases y with
  | none => rfl
  | some e =>
   have hne : d ≠ e := fun he => h d rfl (he ▸ rfl)
   simp only [putT]
   exact List.set_comm _ _ hne
end
end Go.Ev
namespace Go.Ev
open Go Go.RowKit
section
variable {G : Cfg} {σ τ : Store}
def Agree (l : List Id) (σ τ : Store) : Prop := ∀ id, id ∈ l → τ.get? id = σ.get? id ∧ τ.has id = σ.has id
theorem Agree.left {l k : List Id} (h : Agree (l ++ k) σ τ) : Agree l σ τ := fun id hi => h id (List.mem_append_left _ hi)
theorem Agree.right {l k : List Id} (h : Agree (l ++ k) σ τ) : Agree k σ τ := fun id hi => h id (List.mem_append_right _ hi)
theorem Agree.get {l : List Id} (h : Agree l σ τ) {id : Id} (hi : id ∈ l) : τ.get? id = σ.get? id := (h id hi).1
theorem Agree.has {l : List Id} (h : Agree l σ τ) {id : Id} (hi : id ∈ l) : τ.has id = σ.has id := (h id hi).2
def Framed (F : Store → Option Eff) : Prop := ∀ σ e, F σ = some e →
 (∀ id, id ∉ e.wr → e.σ.get? id = σ.get? id ∧ e.σ.has id = σ.has id) ∧
 ∀ τ, Agree (e.rd ++ e.wr) σ τ → ∃ e', F τ = some e' ∧ e'.val = e.val ∧ e'.rd = e.rd ∧ e'.wr = e.wr ∧ Agree e.wr e.σ e'.σ
theorem Framed.nope : Framed (fun _ => none) := fun _ _ h => by cases h
theorem Framed.reads {g : Store → Option AV} {rd : List Id} (hg : ∀ σ τ v, g σ = some v → Agree rd σ τ → g τ = some v) : Framed (fun σ => (g σ).map fun v => { val := v, σ := σ, rd := rd }) := by
 intro σ e h
 obtain ⟨v, hv, rfl⟩ := Option.map_eq_some_iff.1 h
 refine ⟨fun _ _ => ⟨rfl, rfl⟩, fun τ ha => ⟨{ val := v, σ := τ, rd := rd }, by dsimp only; rw [hg σ τ v hv ha.left]; rfl, rfl, rfl, rfl, fun _ hi => by cases hi⟩⟩
theorem Framed.pure (v : Option AV) : Framed (fun σ => pure_ σ v) := fun σ e h => by
 unfold pure_ at h
 obtain ⟨v', rfl, rfl⟩ := Option.map_eq_some_iff.1 h
 exact ⟨fun _ _ => ⟨rfl, rfl⟩, fun τ _ => ⟨{ val := v', σ := τ }, rfl, rfl, rfl, rfl, fun _ hi => by cases hi⟩⟩
theorem Framed.bind {α : Type} (x : Option α) {F : α → Store → Option Eff} (h : ∀ a, Framed (F a)) : Framed (fun σ => x.bind fun a => F a σ) := fun σ e he => by
 obtain ⟨a, rfl, he⟩ := Option.bind_eq_some_iff.1 he
 exact h a σ e he
theorem Framed.ite {p : Prop} [Decidable p] {F H : Store → Option Eff} (h : Framed F) (k : Framed H) : Framed (fun σ => if p then F σ else H σ) := by
 by_cases hp : p <;> simp only [hp, if_true, if_false] <;> assumption
theorem Framed.of {F H : Store → Option Eff} (h : Framed H) (he : ∀ σ, F σ = H σ) : Framed F := by
 have : F = H := funext he
 rw [this]
 exact h
theorem get_put (σ : Store) (i j : Id) (b : Blk) : (σ.put i b).get? j = if j = i then some b else σ.get? j := by
 by_cases h : j = i
 ·subst h; rw [if_pos rfl, get_put_same]
 ·rw [if_neg h, get_put_ne _ _ h]
theorem has_putB (σ : Store) (i j : Id) (b : Blk) : (σ.put i b).has j = (decide (j = i) || σ.has j) := by
 rw [Bool.eq_iff_iff, has_put]
 simp [or_comm]
theorem get_del (σ : Store) (i j : Id) : (σ.del i).get? j = if j = i then none else σ.get? j := by
 by_cases h : j = i
 ·subst h; rw [if_pos rfl, get_del_same]
 ·rw [if_neg h, get_del_ne _ h]
theorem Framed.newBlk (dst : Option Tmp) (b : Blk) (v : AV) : Framed (fun σ => newBlk σ dst b v) := by
 intro σ e h
 dsimp only at h
 unfold Ev.newBlk at h
 split at h
 ·rename_i t
  split at h
  ·rename_i hk
   cases h
   refine ⟨fun id hi => ?_, fun τ ha => ?_⟩
   ·simp only [List.mem_singleton] at hi
    simp only [get_put, has_putB, hi, if_false, decide_false, Bool.false_or, and_self]
   ·have := ha.has (id := .v t) (by simp)
    unfold Ev.newBlk
    simp only [this, hk, if_true]
    refine ⟨{ val := v, σ := τ.put (.v t) b, wr := [.v t] }, rfl, rfl, rfl, rfl, fun id hi => ?_⟩
    simp only [List.mem_singleton] at hi
    subst hi
    simp only [get_put, has_putB, if_true, decide_true, Bool.true_or, and_self]
  ·cases h
 ·cases h
theorem rowOf_agree {id : Id} {sub : Option Nat} (h : τ.get? id = σ.get? id) : rowOf τ id sub = rowOf σ id sub := by cases sub <;> simp only [rowOf, h]
theorem readAt_congr {id : Id} (h : τ.get? id = σ.get? id) (sub : Option Nat) (off n : Nat) : readAt τ id sub off n = readAt σ id sub off n := by
 unfold readAt
 rw [h]
theorem loadA_congr {t : TypeId} {a : AV} (h : ∀ id, id ∈ a.refs → τ.get? id = σ.get? id) : loadA G τ t a = loadA G σ t a := by
 have hc : ∀ n, cellsAt τ n a = cellsAt σ n a := by
  intro n
  cases a with
  | ptr id sub off => exact readAt_congr (h id (by simp [AV.refs])) sub off n
  | _ => rfl
 unfold loadA
 simp only [hc]
theorem evSlice_congr {P : Program} {t : TypeId} {x : AV} {lo hi mx : Option AV} (h : ∀ id, id ∈ x.refs → τ.get? id = σ.get? id) : evSlice P τ t x lo hi mx = evSlice P σ t x lo hi mx := by
 cases x with
 | own id sub off n cap => simp only [evSlice, rowOf_agree (h id (by simp [AV.refs]))]
 | sc v => cases v <;> rfl
 | _ => rfl
theorem elems_spec {e : Nat} {x : AV} {q : Nat × List AV × List Id} (h : elems σ e x = some q) : q.2.2 = x.refs ∧ ∀ τ : Store, (∀ id, id ∈ x.refs → τ.get? id = σ.get? id) → elems τ e x = some q := by
 cases x with
 | own id sub off n cap =>
  refine ⟨?_, fun τ ht => ?_⟩
  ·simp only [elems] at h
   split at h
   ·split at h
    ·obtain ⟨_, _, rfl⟩ := Option.map_eq_some_iff.1 h
     rfl
    ·cases h
   ·cases h
  ·simp only [elems, rowOf_agree (ht id (by simp [AV.refs]))] at h ⊢
   exact h
 | emp => simp only [elems] at h; cases h; exact ⟨rfl, fun _ _ => rfl⟩
 | sl e' n xs =>
  simp only [elems] at h
  refine ⟨?_, fun τ _ => by simp only [elems]; exact h⟩
  split at h
  ·cases h; rfl
  ·cases h
 | _ => simp only [elems] at h; cases h
theorem Framed.conv (P : Program) (src dst : TypeId) (x : AV) : Framed (fun σ => evConv P σ src dst x) := by
 intro σ e h
 dsimp only at h
 unfold evConv at h
 split at h
 ·rename_i kk n
  split at h
  ·rename_i k hk
   split at h
   ·rename_i u hu
    cases h
    exact ⟨fun _ _ => ⟨rfl, rfl⟩, fun τ _ => ⟨{ val := .sc (.int k (k.wrap n)), σ := τ }, by simp only [evConv, hk, hu], rfl, rfl, rfl, fun _ hi => by cases hi⟩⟩
   ·cases h
  ·cases h
 ·rename_i s
  split at h
  ·rename_i hc
   cases h
   exact ⟨fun _ _ => ⟨rfl, rfl⟩, fun τ _ => ⟨{ val := .sc (.string s), σ := τ }, by simp only [evConv]; rw [if_pos hc], rfl, rfl, rfl, fun _ hi => by cases hi⟩⟩
  ·cases h
 ·rename_i h1 h2
  split at h
  ·rename_i el hel
   split at h
   ·rename_i hu
    split at h
    ·rename_i hs
     split at h
     ·rename_i n xs ids hel2
      obtain ⟨l, hl, rfl⟩ := Option.map_eq_some_iff.1 h
      refine ⟨fun _ _ => ⟨rfl, rfl⟩, fun τ ha => ?_⟩
      obtain ⟨k1, k2⟩ := elems_spec hel2
      have := k2 τ fun id hi => ha.left.get (by simp only at k1 ⊢; rw [k1]; exact hi)
      refine ⟨{ val := .sc (.string ⟨l.toArray⟩), σ := τ, rd := ids }, ?_, rfl, rfl, rfl, fun _ hi => by cases hi⟩
      dsimp only
      unfold evConv
      split
      ·exact absurd rfl (h1 _ _)
      ·exact absurd rfl (h2 _)
      ·simp only [hel, hu, hs, if_true, this, hl, Option.map_some]
     ·cases h
    ·cases h
   ·cases h
  ·cases h
theorem handIn_spec {inl : Bool} {x y : AV} {σ1 : Store} {ids : List Id} (h : handIn inl σ x = some (y, σ1, ids)) :
  σ1 = delAll σ ids ∧ ∀ τ : Store, (∀ id, id ∈ ids → τ.get? id = σ.get? id) → handIn inl τ x = some (y, delAll τ ids, ids) := by
 unfold handIn at h
 split at h
 ·rename_i id off n cap
  split at h
  ·rename_i b hb
   split at h
   ·rename_i hc
    cases h
    refine ⟨rfl, fun τ ht => ?_⟩
    have := ht id (by simp)
    rw [hb] at this
    unfold handIn
    simp only [this]
    rw [if_pos hc]
    rfl
   ·rename_i hnc
    split at h
    ·rename_i hc
     cases h
     refine ⟨rfl, fun τ ht => ?_⟩
     have := ht id (by simp)
     rw [hb] at this
     unfold handIn
     simp only [this]
     rw [if_neg hnc, if_pos hc]
     rfl
    ·cases h
  ·cases h
 ·cases h
 ·cases h
 ·cases h
  exact ⟨rfl, fun τ _ => rfl⟩
 ·rename_i h1 h2 h3 h4
  split at h
  ·rename_i hf
   cases h
   refine ⟨rfl, fun τ _ => ?_⟩
   unfold handIn
   split
   ·exact absurd rfl (h1 _ _ _ _)
   ·exact absurd rfl (h2 _ _ _ _ _)
   ·exact absurd rfl (h3 _ _ _)
   ·exact absurd rfl h4
   ·rw [if_pos hf]; rfl
  ·cases h
theorem delAll_app (σ : Store) : ∀ (a b : List Id), delAll σ (a ++ b) = delAll (delAll σ a) b
 | [], _ => rfl
 | i :: r, b => by simp only [List.cons_append, delAll]; exact delAll_app _ r b
theorem handAll_spec {inl : Bool} : ∀ {xs ys : List AV} {σ σ1 : Store} {ids : List Id}, handAll inl σ xs = some (ys, σ1, ids) →
  σ1 = delAll σ ids ∧ ∀ τ : Store, (∀ id, id ∈ ids → τ.get? id = σ.get? id) → handAll inl τ xs = some (ys, delAll τ ids, ids)
 | [], _, _, _, _, h => by
  simp only [handAll] at h
  cases h
  exact ⟨rfl, fun _ _ => rfl⟩
 | x :: r, ys, σ, σ1, ids, h => by
  simp only [handAll] at h
  split at h
  ·cases h
  ·rename_i p hp
   split at h
   ·cases h
   ·rename_i q hq
    cases h
    obtain ⟨y, σ2, i1⟩ := p
    obtain ⟨ys', σ3, i2⟩ := q
    obtain ⟨h1, h2⟩ := handIn_spec hp
    obtain ⟨h3, h4⟩ := handAll_spec hq
    simp only at h1 h3 hp hq ⊢
    refine ⟨by rw [h3, h1, delAll_app], fun τ ht => ?_⟩
    have e1 := h2 τ fun id hi => ht id (List.mem_append_left _ hi)
    have e2 := h4 (delAll τ i1) fun id hi => by
     rw [h1, delAll_get, delAll_get, ht id (List.mem_append_right _ hi)]
    simp only [handAll, e1, e2, delAll_app]
end
end Go.Ev
namespace Go.Ev
open Go Go.RowKit
section
variable {G : Cfg} {σ τ : Store}
theorem delAll_off {ids : List Id} {j : Id} (h : j ∉ ids) : (delAll σ ids).get? j = σ.get? j ∧ (delAll σ ids).has j = σ.has j := ⟨by rw [delAll_get, if_neg h], delAll_has _ _ _⟩
theorem put_off {i j : Id} {b : Blk} (h : j ≠ i) : (σ.put i b).get? j = σ.get? j ∧ (σ.put i b).has j = σ.has j := ⟨get_put_ne _ _ h, by rw [has_putB]; simp [h]⟩
theorem put_frame {ids : List Id} {i : Id} {b : Blk} : (∀ j, j ∉ i :: ids → ((delAll σ ids).put i b).get? j = σ.get? j ∧ ((delAll σ ids).put i b).has j = σ.has j) ∧
  (Agree (i :: ids) σ τ → Agree (i :: ids) ((delAll σ ids).put i b) ((delAll τ ids).put i b)) := by
 refine ⟨fun j hj => ?_, fun h j hj => ?_⟩
 ·simp only [List.mem_cons, not_or] at hj
  exact ⟨(put_off hj.1).1.trans (delAll_off hj.2).1, (put_off hj.1).2.trans (delAll_off hj.2).2⟩
 ·simp only [get_put, has_putB, delAll_get, delAll_has, h.has hj]
  refine ⟨?_, trivial⟩
  by_cases e : j = i
  ·rw [if_pos e, if_pos e]
  ·rw [if_neg e, if_neg e]
   have : j ∈ ids := by simpa [e] using hj
   rw [if_pos this, if_pos this]
theorem Framed.store (n : Nat) (a x : AV) : Framed (fun σ => storeAt σ n a x) := by
 intro σ e h
 dsimp only at h
 unfold storeAt at h
 split at h
 ·cases h
 ·rename_i hx
  split at h
  ·rename_i id off
   split at h
   ·cases h
   ·rename_i b hb
    split at h
    ·rename_i ha
     unfold storeArr at h
     split at h
     ·cases h
     ·rename_i p hp
      obtain ⟨ys, σ1, ids⟩ := p
      split at h
      ·rename_i hc
       obtain ⟨h1, h2⟩ := handAll_spec hp
       simp only at h1 hc h ⊢
       subst h1
       by_cases hnf : b.nest = true ∧ ids ≠ []
       ·rw [if_pos hnf] at h
        by_cases hfr : b.fr = true
        ·rw [if_pos hfr] at h
         cases h
         refine ⟨(put_frame (τ := σ)).1, fun τ hag => ?_⟩
         have hag := hag.right
         refine ⟨{ val := undefA, σ := (delAll τ ids).put id { b with cells := putAt (b.cells.map frz) off ys, nest := false }, wr := id :: ids }, ?_, rfl, rfl, rfl, put_frame.2 hag⟩
         have e1 : τ.get? id = some b := (hag.get (by simp)).trans hb
         have e2 := h2 τ fun j hj => hag.get (by simp [hj])
         unfold storeAt
         rw [if_neg hx]
         simp only [e1]
         rw [if_pos ha]
         unfold storeArr
         simp only [e2]
         rw [if_pos hc, if_pos hnf, if_pos hfr]
        ·rw [if_neg hfr] at h; cases h
       ·rw [if_neg hnf] at h
        cases h
        refine ⟨(put_frame (τ := σ)).1, fun τ hag => ?_⟩
        have hag := hag.right
        refine ⟨{ val := undefA, σ := (delAll τ ids).put id { b with cells := putAt b.cells off ys }, wr := id :: ids }, ?_, rfl, rfl, rfl, put_frame.2 hag⟩
        have e1 : τ.get? id = some b := (hag.get (by simp)).trans hb
        have e2 := h2 τ fun j hj => hag.get (by simp [hj])
        unfold storeAt
        rw [if_neg hx]
        simp only [e1]
        rw [if_pos ha]
        unfold storeArr
        simp only [e2]
        rw [if_pos hc, if_neg hnf]
      ·cases h
    ·rename_i ha
     unfold storeBox at h
     split at h
     ·rename_i hc
      cases h
      refine ⟨(put_frame (τ := σ) (ids := [])).1, fun τ hag => ?_⟩
      have hag := hag.right
      refine ⟨{ val := undefA, σ := τ.put id { b with cells := putAt b.cells off x.cells }, wr := [id] }, ?_, rfl, rfl, rfl, (put_frame (ids := [])).2 hag⟩
      have e1 : τ.get? id = some b := (hag.get (by simp)).trans hb
      show storeAt τ n (.ptr id none off) x = _
      unfold storeAt
      rw [if_neg hx]
      simp only [e1]
      rw [if_neg ha]
      unfold storeBox
      rw [if_pos hc]
     ·cases h
  ·rename_i id p off
   unfold storeRow at h
   split at h
   ·cases h
   ·rename_i q hq
    split at h
    ·rename_i hc
     obtain ⟨σ', hs, rfl⟩ := Option.map_eq_some_iff.1 h
     unfold setRow at hs
     split at hs
     ·cases hs
     ·rename_i b hb
      simp only at hs
      split at hs
      ·rename_i e0 n0 ys hcell
       cases hs
       refine ⟨(put_frame (τ := σ) (ids := [])).1, fun τ hag => ?_⟩
       have hag := hag.right
       have e1 : τ.get? id = some b := (hag.get (by simp)).trans hb
       refine ⟨{ val := undefA, σ := τ.put id { b with cells := b.cells.set p (.nst e0 n0 (putAt q.1 off x.cells)) }, wr := [id] }, ?_, rfl, rfl, rfl, (put_frame (ids := [])).2 hag⟩
       have e2 : rowOf τ id (some p) = some q := by rw [rowOf_agree (e1.trans hb.symm)]; exact hq
       show storeAt τ n (.ptr id (some p) off) x = _
       unfold storeAt
       rw [if_neg hx]
       simp only [storeRow, e2]
       rw [if_pos hc]
       simp only [setRow, e1, hcell, Option.map_some]
      ·cases hs
    ·cases h
  ·cases h
theorem Framed.storeT (t : TypeId) (a x : AV) : Framed (fun σ => storeA G σ t a x) := Framed.bind _ fun n => Framed.store n a x
theorem Framed.buildSlice (inl : Bool) (dst : Option Tmp) (ty : TypeId) (len : Nat) (parts : List (Nat × AV)) : Framed (fun σ => evBuildSlice G inl σ dst ty len parts) := by
 intro σ e h
 dsimp only at h
 unfold evBuildSlice at h
 split at h
 ·rename_i el hel
  split at h
  ·rename_i s z hs hz
   split at h
   ·rename_i hb
    split at h
    ·rename_i cs hfill
     split at h
     ·rename_i ys σ1 ids hh
      split at h
      ·rename_i t
       split at h
       ·rename_i hk
        cases h
        obtain ⟨h1, h2⟩ := handAll_spec hh
        subst h1
        refine ⟨(put_frame (τ := σ)).1, fun τ hag => ?_⟩
        have hag := hag.right
        have e2 := h2 τ fun j hj => hag.get (by simp [hj])
        have e3 : (delAll τ ids).has (.v t) = false := by rw [delAll_has, hag.has (by simp)]; rw [delAll_has] at hk; exact hk
        refine ⟨{ val := .own (.v t) none 0 len len, σ := (delAll τ ids).put (.v t) ⟨true, true, inl && !ids.isEmpty, s, ys⟩, wr := .v t :: ids }, ?_, rfl, rfl, rfl, put_frame.2 hag⟩
        simp only [evBuildSlice, hel, hs, hz, hfill, e2, e3, if_true]
        rw [if_pos hb]
       ·cases h
      ·cases h
     ·cases h
    ·cases h
   ·cases h
  ·cases h
 ·cases h
theorem Framed.makeSlice (inl : Bool) (dst : Option Tmp) (ty : TypeId) (l m : AV) : Framed (fun σ => evMakeSlice G inl σ dst ty l m) := by
 intro σ e h
 dsimp only at h
 unfold evMakeSlice at h
 split at h
 ·rename_i el kl n km m hel
  split at h
  ·rename_i s z by_ hs hz hby
   split at h
   ·rename_i hc
    obtain ⟨h1, h2⟩ := Framed.newBlk dst ⟨true, true, false, s, repl n.toNat (z.map (nrm inl))⟩ (.own (.v (dst.getD 0)) none 0 n.toNat n.toNat) σ e h
    refine ⟨h1, fun τ ht => ?_⟩
    obtain ⟨e', k1, k2⟩ := h2 τ ht
    refine ⟨e', ?_, k2⟩
    simp only [evMakeSlice, hel, hs, hz, hby]
    rw [if_pos hc]
    exact k1
   ·cases h
  ·cases h
 ·cases h
theorem appendSrc_spec {new : List AV} {x : AV} {σ1 : Store} {ids : List Id} (hi : ids = x.refs) (h : appendSrc σ new x = some σ1) :
  σ1 = delAll σ (if new.any isNst then ids else []) ∧ ∀ τ : Store, (∀ id, id ∈ (if new.any isNst then ids else []) → τ.get? id = σ.get? id) → appendSrc τ new x = some (delAll τ (if new.any isNst then ids else [])) := by
 unfold appendSrc at h
 split at h
 ·rename_i hn
  split at h
  ·rename_i id off n cap
   split at h
   ·rename_i b hb
    split at h
    ·rename_i hf
     cases h
     subst hi
     simp only [hn, if_true, AV.refs, delAll]
     refine ⟨trivial, fun τ ht => ?_⟩
     have := ht id (by simp)
     rw [hb] at this
     unfold appendSrc
     rw [if_pos hn]
     simp only [this]
     rw [if_pos hf]
    ·cases h
   ·cases h
  ·cases h
 ·rename_i hn
  cases h
  simp only [hn]
  refine ⟨rfl, fun τ _ => ?_⟩
  unfold appendSrc
  rw [if_neg hn]
  rfl
theorem Agree.refl0 : Agree [] σ τ := fun _ h => by cases h
theorem evAppend1_spec {t e by_ : Nat} {s : AV} {k : Nat} {new : List AV} {rd xw : List Id} {e0 : Eff} (h : evAppend1 σ t e by_ s k new rd xw = some e0) :
  ∃ wr0, e0.wr = wr0 ++ xw ∧ e0.rd = rd ∧ (∀ j, j ∉ wr0 → e0.σ.get? j = σ.get? j ∧ e0.σ.has j = σ.has j) ∧
   ∀ τ : Store, Agree wr0 σ τ → ∃ e', evAppend1 τ t e by_ s k new rd xw = some e' ∧ e'.val = e0.val ∧ e'.rd = e0.rd ∧ e'.wr = e0.wr ∧ Agree wr0 e0.σ e'.σ ∧ (∀ j, j ∉ wr0 → e'.σ.get? j = τ.get? j ∧ e'.σ.has j = τ.has j) := by
 unfold evAppend1 at h
 split at h
 ·unfold appendNew at h
  split at h
  ·rename_i hc
   cases h
   obtain ⟨c1, c2, c3, c4⟩ := hc
   refine ⟨[.v t], rfl, rfl, (put_frame (τ := σ) (ids := [])).1, fun τ ht => ⟨{ val := .own (.v t) none 0 k k, σ := τ.put (.v t) ⟨true, true, new.any isNst, e, new⟩, rd := rd, wr := .v t :: xw }, ?_, rfl, rfl, rfl, (put_frame (ids := [])).2 ht, (put_frame (σ := τ) (τ := τ) (ids := [])).1⟩⟩
   simp only [evAppend1, appendNew]
   rw [if_pos ⟨c1, c2, fun _ => trivial, (ht.has (by simp)).trans c4⟩]
  ·cases h
 ·rename_i e' n xs
  split at h
  ·rename_i hk
   cases h
   exact ⟨[], rfl, rfl, fun _ _ => ⟨rfl, rfl⟩, fun τ _ => ⟨{ val := .sl e' n xs, σ := τ, rd := rd, wr := xw }, by simp only [evAppend1, hk, if_true], rfl, rfl, rfl, Agree.refl0, fun _ _ => ⟨rfl, rfl⟩⟩⟩
  ·cases h
 ·rename_i id sub off n cap
  unfold appendTo at h
  split at h
  ·rename_i q b hq hb
   split at h
   ·rename_i hc
    split at h
    ·rename_i hcap
     split at h
     ·rename_i hc2
      obtain ⟨σ', hs, rfl⟩ := Option.map_eq_some_iff.1 h
      have key : ∃ blk', ∀ τ : Store, τ.get? id = some b → setRow τ id sub (putAt q.1 (off + n * e) new) = some (τ.put id blk') := by
       unfold setRow at hs
       rw [hb] at hs
       simp only at hs
       cases sub with
       | none => exact ⟨_, fun τ ht => by unfold setRow; rw [ht]⟩
       | some p =>
        simp only at hs
        split at hs
        ·rename_i e1 n1 ys hcell
         exact ⟨{ b with cells := b.cells.set p (.nst e1 n1 (putAt q.1 (off + n * e) new)) }, fun τ ht => by unfold setRow; rw [ht]; simp only [hcell]⟩
        ·cases hs
      obtain ⟨blk', hkey⟩ := key
      rw [hkey σ hb] at hs
      cases hs
      refine ⟨[id], rfl, rfl, (put_frame (τ := σ) (ids := [])).1, fun τ ht => ⟨{ val := .own id sub off (n + k) cap, σ := τ.put id blk', rd := rd, wr := id :: xw }, ?_, rfl, rfl, rfl, (put_frame (ids := [])).2 ht, (put_frame (σ := τ) (τ := τ) (ids := [])).1⟩⟩
      have e1 : τ.get? id = some b := (ht.get (by simp)).trans hb
      simp only [evAppend1, appendTo, rowOf_agree (e1.trans hb.symm), hq, e1]
      rw [if_pos hc, if_pos hcap, if_pos hc2, hkey τ e1]
      rfl
     ·cases h
    ·rename_i hcap
     split at h
     ·rename_i hc2
      unfold appendNew at h
      split at h
      ·rename_i hc3
       cases h
       obtain ⟨c1, c2, c3, c4⟩ := hc3
       refine ⟨[.v t, id], rfl, rfl, (put_frame (τ := σ) (ids := [id])).1, fun τ ht => ⟨{ val := .own (.v t) none 0 (n + k) (n + k), σ := (τ.del id).put (.v t) ⟨true, b.fr, b.nest || new.any isNst, e, (q.1.drop off).take (n * e) ++ new⟩, rd := rd, wr := .v t :: id :: xw }, ?_, rfl, rfl, rfl, (put_frame (ids := [id])).2 ht, (put_frame (σ := τ) (τ := τ) (ids := [id])).1⟩⟩
       have e1 : τ.get? id = some b := (ht.get (by simp)).trans hb
       simp only [evAppend1, appendTo, rowOf_agree (e1.trans hb.symm), hq, e1]
       rw [if_pos hc, if_neg hcap, if_pos hc2]
       unfold appendNew
       rw [if_pos ⟨c1, c2, c3, by rw [has_del] at c4 ⊢; exact (ht.has (by simp)).trans c4⟩]
      ·cases h
     ·cases h
   ·cases h
  ·cases h
 ·cases h
theorem Framed.append (ty : TypeId) (s x : AV) (t : Nat) : Framed (fun σ => evAppend G σ ty s x t) := by
 refine Framed.bind _ fun et => Framed.bind _ fun e => Framed.bind _ fun by_ => Framed.bind _ fun z => ?_
 refine Framed.ite ?_ Framed.nope
 intro σ e0 h
 dsimp only at h
 obtain ⟨q, hq, h⟩ := Option.bind_eq_some_iff.1 h
 obtain ⟨σ1, hs, h⟩ := Option.bind_eq_some_iff.1 h
 obtain ⟨hids, hel⟩ := elems_spec hq
 obtain ⟨rfl, hs2⟩ := appendSrc_spec hids hs
 obtain ⟨wr0, h1, h2, h3, h4⟩ := evAppend1_spec h
 refine ⟨fun j hj => ?_, fun τ hag => ?_⟩
 ·rw [h1] at hj
  have ha : j ∉ wr0 := fun hm => hj (List.mem_append_left _ hm)
  have hb := fun hm => hj (List.mem_append_right wr0 hm)
  exact ⟨(h3 j ha).1.trans (delAll_off hb).1, (h3 j ha).2.trans (delAll_off hb).2⟩
 ·rw [h1, h2] at hag
  have e1 := hel τ fun id hi => hag.left.get (by rw [hids]; exact hi)
  have e2 := hs2 τ fun id hi => hag.right.right.get hi
  obtain ⟨e', k1, k2, k3, k4, k5, k6⟩ := h4 (delAll τ (if q.2.1.any isNst then q.2.2 else [])) fun j hj => by
   simp only [delAll_get, delAll_has, hag.right.left.get hj, hag.right.left.has hj, and_self]
  refine ⟨e', by simp only [e1, e2, Option.bind_some]; exact k1, k2, k3, k4, fun j hj => ?_⟩
  by_cases hw : j ∈ wr0
  ·exact k5 j hw
  ·rw [h1] at hj
   have hx : j ∈ (if q.2.1.any isNst then q.2.2 else []) := (List.mem_append.1 hj).resolve_left hw
   rw [(k6 j hw).1, (k6 j hw).2, (h3 j hw).1, (h3 j hw).2, delAll_get, delAll_get, if_pos hx, if_pos hx, delAll_has, delAll_has]
   exact ⟨rfl, hag.right.right.has hx⟩
end
end Go.Ev
namespace Go.Ev
open Go Go.RowKit
section
variable {G : Cfg} {σ τ : Store}
theorem nameIds_congr {nm : Nat → Id} : ∀ (ids : List Id) (k : Nat) (N : Names), (∀ i, i ∈ ids → τ.get? i = σ.get? i) → nameIds τ nm k ids N = nameIds σ nm k ids N
 | [], _, _, _ => rfl
 | i :: r, k, N, h => by
  simp only [nameIds, h i (by simp)]
  rw [nameIds_congr r k N fun j hj => h j (List.mem_cons_of_mem _ hj), nameIds_congr r (k + 1) _ fun j hj => h j (List.mem_cons_of_mem _ hj)]
theorem nameIds_ext {σ : Store} {nm : Nat → Id} : ∀ (ids : List Id) (k : Nat) (N : Names), ∃ M, (nameIds σ nm k ids N).2 = N ++ M
 | [], _, N => ⟨[], by simp [nameIds]⟩
 | i :: r, k, N => by
  simp only [nameIds]
  split
  ·exact nameIds_ext r k N
  ·obtain ⟨M, hM⟩ := nameIds_ext r (k + 1) (N ++ [(i, nm k)])
   exact ⟨(i, nm k) :: M, by rw [hM]; simp⟩
theorem boxRefs_app : ∀ (N M : Names), boxRefs σ (N ++ M) = boxRefs σ N ++ boxRefs σ M
 | [], _ => rfl
 | (a, b) :: r, M => by simp only [List.cons_append, boxRefs, boxRefs_app r M, List.append_assoc]
theorem boxRefs_congr : ∀ (N : Names), (∀ i, i ∈ N.map (·.1) → τ.get? i = σ.get? i) → boxRefs τ N = boxRefs σ N
 | [], _ => rfl
 | (a, b) :: r, h => by simp only [boxRefs, h a (by simp), boxRefs_congr r fun i hi => h i (by simp only [List.map_cons, List.mem_cons]; exact .inr hi)]
theorem collect_congr {nm : Nat → Id} {ids : List Id} {N0 N : Names} (hN : (collect σ nm ids N0).2 = N) (h1 : ∀ i, i ∈ ids → τ.get? i = σ.get? i) (h2 : ∀ i, i ∈ boxRefs σ N → τ.get? i = σ.get? i) (h3 : ∀ i, i ∈ N.map (·.1) → τ.get? i = σ.get? i) :
  collect τ nm ids N0 = collect σ nm ids N0 := by
 unfold collect at hN ⊢
 dsimp only at hN ⊢
 rw [nameIds_congr ids 0 N0 h1]
 generalize nameIds σ nm 0 ids N0 = p1 at hN ⊢
 obtain ⟨M2, hM2⟩ := nameIds_ext (σ := σ) (nm := nm) (boxRefs σ p1.2) p1.1 p1.2
 obtain ⟨M3, hM3⟩ := nameIds_ext (σ := σ) (nm := nm) (boxRefs σ (nameIds σ nm p1.1 (boxRefs σ p1.2) p1.2).2) (nameIds σ nm p1.1 (boxRefs σ p1.2) p1.2).1 (nameIds σ nm p1.1 (boxRefs σ p1.2) p1.2).2
 have e1 : boxRefs τ p1.2 = boxRefs σ p1.2 := boxRefs_congr _ fun i hi => h3 i (by rw [← hN, hM3, hM2]; simp only [List.map_append, List.mem_append]; exact .inl (.inl hi))
 have e2 : nameIds τ nm p1.1 (boxRefs σ p1.2) p1.2 = nameIds σ nm p1.1 (boxRefs σ p1.2) p1.2 := nameIds_congr _ _ _ fun i hi => h2 i (by rw [← hN, hM3, hM2, boxRefs_app, boxRefs_app]; exact List.mem_append_left _ (List.mem_append_left _ hi))
 rw [e1, e2]
 have e3 : boxRefs τ (nameIds σ nm p1.1 (boxRefs σ p1.2) p1.2).2 = boxRefs σ (nameIds σ nm p1.1 (boxRefs σ p1.2) p1.2).2 := boxRefs_congr _ fun i hi => h3 i (by rw [← hN, hM3]; simp only [List.map_append, List.mem_append]; exact .inl hi)
 rw [e3]
 exact nameIds_congr _ _ _ fun i hi => h2 i (by rw [← hN, hM3, boxRefs_app]; exact List.mem_append_left _ hi)
theorem giveUp_congr {x : AV} (h : ∀ i, i ∈ x.refs → τ.get? i = σ.get? i) : giveUp τ x = giveUp σ x := by
 cases x with
 | own id sub off n cap =>
  have := h id (by simp [AV.refs])
  simp only [giveUp, rowOf_agree this, this]
 | _ => rfl
theorem giveUpL_congr : ∀ {xs : List AV}, (∀ i, i ∈ AV.refsL xs → τ.get? i = σ.get? i) → giveUpL τ xs = giveUpL σ xs
 | [], _ => rfl
 | x :: r, h => by
  simp only [giveUpL]
  rw [giveUp_congr fun i hi => h i (by simp only [AV.refsL]; exact List.mem_append_left _ hi), giveUpL_congr fun i hi => h i (by simp only [AV.refsL]; exact List.mem_append_right _ hi)]
theorem giveUpV_congr {x : AV} (h : ∀ i, i ∈ x.refs → τ.get? i = σ.get? i) : giveUpV τ x = giveUpV σ x := by
 cases x with
 | agg cs => simp only [giveUpV, giveUpL_congr fun i hi => h i (by simp only [AV.refs]; exact hi)]
 | _ => exact giveUp_congr h
theorem passOne_congr {N : Names} {l : Bool} {x : AV} {p : AV × List Id} (hp : passOne σ N l x = some p) (h : ∀ i, i ∈ p.2 → τ.get? i = σ.get? i) : passOne τ N l x = some p := by
 have key : ∀ y : AV, (if l = true then some (y.ren N, []) else (giveUpV σ y).map fun z => (z.ren N, y.refs)) = some p → (if l = true then some (y.ren N, []) else (giveUpV τ y).map fun z => (z.ren N, y.refs)) = some p := by
  intro y hy
  split at hy
  ·rename_i hl; rw [if_pos hl]; exact hy
  ·rename_i hl
   obtain ⟨z, hz, rfl⟩ := Option.map_eq_some_iff.1 hy
   rw [if_neg hl, giveUpV_congr h, hz]
   rfl
 cases x with
 | ptr id s off => exact hp
 | clo f cs => exact hp
 | _ => exact key _ hp
theorem passAll_congr {N : Names} {lend : Nat → Bool} : ∀ (args : List AV) (i : Nat) (p : List AV × List Id), passAll σ N lend i args = some p → (∀ j, j ∈ p.2 → τ.get? j = σ.get? j) → passAll τ N lend i args = some p
 | [], _, _, hp, _ => hp
 | x :: r, i, p, hp, h => by
  simp only [passAll] at hp ⊢
  obtain ⟨a, ha, hp⟩ := Option.bind_eq_some_iff.1 hp
  obtain ⟨b, hb, hp⟩ := Option.bind_eq_some_iff.1 hp
  cases hp
  rw [passOne_congr ha fun j hj => h j (List.mem_append_left _ hj), Option.bind_some, passAll_congr r _ b hb fun j hj => h j (List.mem_append_right _ hj), Option.bind_some]
theorem ren_congr {M : Names} : ∀ (N : Names), (∀ i, i ∈ N.map (·.1) → τ.get? i = σ.get? i) → Store.ren τ M N = Store.ren σ M N
 | [], _ => rfl
 | (a, b) :: r, h => by simp only [Store.ren, h a (by simp), ren_congr r fun i hi => h i (by simp only [List.map_cons, List.mem_cons]; exact .inr hi)]
theorem has_appB {σ : Store} {j i : Id} {b : Option Blk} : (σ ++ [(i, b)]).has j = (σ.has j || decide (j = i)) := by
 rw [Bool.eq_iff_iff, has_app]; simp
theorem frAll_congr {σ τ : Store} : ∀ (N : Names), (∀ i, i ∈ N.map (·.1) → τ.get? i = σ.get? i) → frAll τ N = frAll σ N
 | [], _ => rfl
 | (a, b) :: r, h => by simp only [frAll, h a (by simp), frAll_congr r fun i hi => h i (by simp only [List.map_cons, List.mem_cons]; exact .inr hi)]
theorem addNew_congr {q : Bool} {σ1 : Store} {B : Names} : ∀ (M : Names) (σ τ σ3 : Store), addNew q σ σ1 B M = some σ3 → (∀ j, j ∈ M.map (·.2) → τ.has j = σ.has j) → ∃ τ3, addNew q τ σ1 B M = some τ3
 | [], _, τ, _, _, _ => ⟨τ, rfl⟩
 | (a, b) :: r, σ, τ, σ3, h, ht => by
  simp only [addNew] at h ⊢
  split at h
  ·rename_i x hx
   split at h
   ·cases h
   ·rename_i hb
    rw [ht b (by simp), if_neg hb]
    exact addNew_congr r _ _ σ3 h fun j hj => by rw [has_appB, has_appB, ht j (by simp only [List.map_cons, List.mem_cons]; exact .inr hj)]
  ·cases h
theorem bool_iff {a b : Bool} {p : Prop} (h : a = true ↔ p) (k : b = true ↔ p) : a = b := by rw [Bool.eq_iff_iff, h, k]
theorem callBack_frame {fz : Bool} {t : Nat} {N : Names} (hN : (N.map (·.1)).Nodup) {frozen : List Id} {q : AV × Store} {B : Names} {e : Eff} (h : callBack fz σ t N frozen q B = some e) :
  (∀ j, j ∉ e.wr → e.σ.get? j = σ.get? j ∧ e.σ.has j = σ.has j) ∧ (∀ j, j ∈ N.map (·.1) → j ∈ e.wr) ∧ (∀ j, j ∈ frozen → j ∈ e.rd ∨ j ∈ e.wr) ∧
   ∀ τ, Agree (e.rd ++ e.wr) σ τ → ∃ e', callBack fz τ t N frozen q B = some e' ∧ e'.val = e.val ∧ e'.rd = e.rd ∧ e'.wr = e.wr ∧ Agree e.wr e.σ e'.σ := by
 unfold callBack at h
 split at h
 ·cases h
 ·rename_i hB
  obtain ⟨σ3, h3, h⟩ := Option.bind_eq_some_iff.1 h
  obtain ⟨a1, a2, a3⟩ := addNew_run _ _ _ h3
  have off : ∀ j, j ∉ N.map (·.1) → j ∉ (B.drop N.length).map (·.2) → σ3.get? j = σ.get? j ∧ σ3.has j = σ.has j := by
   intro j h1 h2
   refine ⟨by rw [a2 j h2, backLent_ne N σ j h1], ?_⟩
   have := a1 j
   rw [backLent_has] at this
   rw [Bool.eq_iff_iff, this]
   simp only [h2, or_false]
  have on : ∀ τ : Store, (∀ j, j ∈ N.map (·.1) ∨ j ∈ (B.drop N.length).map (·.2) → τ.get? j = σ.get? j ∧ τ.has j = σ.has j) → ∃ τ3, addNew (frAll τ N) (backLent τ q.2 B N) q.2 B (B.drop N.length) = some τ3 ∧
    (∀ j, j ∈ N.map (·.1) ∨ j ∈ (B.drop N.length).map (·.2) → τ3.get? j = σ3.get? j) ∧ (∀ j, τ.has j = σ.has j → τ3.has j = σ3.has j) := by
   intro τ ht
   rw [frAll_congr N fun i hi => (ht i (.inl hi)).1]
   obtain ⟨τ3, ht3⟩ := addNew_congr _ _ (backLent τ q.2 B N) _ h3 fun j hj => by rw [backLent_has, backLent_has]; exact (ht j (.inr hj)).2
   obtain ⟨b1, b2, b3⟩ := addNew_run _ _ _ ht3
   refine ⟨τ3, ht3, fun j hj => ?_, fun j hj => ?_⟩
   ·by_cases hm : j ∈ (B.drop N.length).map (·.2)
    ·obtain ⟨⟨l, j'⟩, hp, he⟩ := List.mem_map.1 hm
     simp only at he
     subst he
     rw [(a3 l j' hp).2, (b3 l j' hp).2]
    ·have hn : j ∈ N.map (·.1) := hj.resolve_right hm
     rw [a2 j hm, b2 j hm]
     obtain ⟨⟨a, l⟩, hp, he⟩ := List.mem_map.1 hn
     simp only at he
     subst he
     rw [backLent_mem N σ a l hN hp, backLent_mem N τ a l hN hp, (ht a (.inl hn)).1]
   ·refine bool_iff (b1 j) ?_
    rw [a1 j, backLent_has, backLent_has, hj]
  split at h
  ·rename_i hc
   split at h
   ·rename_i hall
    cases h
    dsimp only
    refine ⟨fun j hj => ?_, fun j hj => by simp [hj], fun j hj => .inr (by simp [hj]), fun τ ht => ?_⟩
    ·simp only [List.append_assoc, List.mem_append, not_or] at hj
     rw [delAll_get, if_neg hj.2.1, delAll_has]
     exact off j hj.1 hj.2.2
    ·have ht := ht.right
     obtain ⟨τ3, k1, k2, k3⟩ := on τ fun j hj => ht j (by simp only [List.append_assoc, List.mem_append]; rcases hj with hj | hj; exact .inl hj; exact .inr (.inr hj))
     refine ⟨{ val := q.1.ren B, σ := delAll τ3 frozen, rd := N.map (·.1), wr := N.map (·.1) ++ frozen ++ (B.drop N.length).map (·.2) }, ?_, rfl, rfl, rfl, fun j hj => ?_⟩
     ·unfold callBack
      rw [if_neg hB, k1, Option.bind_some, if_pos hc, if_pos]
      refine List.all_eq_true.2 fun i hi => ?_
      rw [ht.get (by simp [hi])]
      exact List.all_eq_true.1 hall i hi
     ·dsimp only at hj ⊢
      refine ⟨?_, by rw [delAll_has, delAll_has]; exact k3 j (ht.has hj)⟩
      rw [delAll_get, delAll_get]
      split
      ·rfl
      ·rename_i hf
       simp only [List.append_assoc, List.mem_append] at hj
       refine k2 j ?_
       rcases hj with hj | hj | hj
       ·exact .inl hj
       ·exact absurd hj hf
       ·exact .inr hj
   ·cases h
  ·rename_i hc
   cases h
   dsimp only
   refine ⟨fun j hj => ?_, fun j hj => by simp [hj], fun j hj => .inl hj, fun τ ht => ?_⟩
   ·simp only [List.mem_append, not_or] at hj
    exact off j hj.1 hj.2
   ·have ht := ht.right
    obtain ⟨τ3, k1, k2, k3⟩ := on τ fun j hj => ht j (by simp only [List.mem_append]; exact hj)
    refine ⟨{ val := q.1.ren B, σ := τ3, rd := frozen, wr := N.map (·.1) ++ (B.drop N.length).map (·.2) }, ?_, rfl, rfl, rfl, fun j hj => ?_⟩
    ·unfold callBack
     rw [if_neg hB, k1, Option.bind_some, if_neg hc]
    ·simp only [List.mem_append] at hj
     exact ⟨k2 j hj, k3 j (ht.has (by simp only [List.mem_append]; exact hj))⟩
theorem Framed.callA (C : Oracle) (f : FuncId) (args : List AV) (t : Nat) : Framed (fun σ => callA G C σ f args t) := by
 intro σ e h
 dsimp only at h
 unfold Ev.callA at h
 generalize hN : (collect σ .l (lentRefs (G.lend f) 0 args) []).2 = N at h
 obtain ⟨e0, h0, rfl⟩ := Option.map_eq_some_iff.1 h
 clear h
 unfold callIn at h0
 split at h0
 ·cases h0
 ·rename_i hok
  obtain ⟨p, hp, h0⟩ := Option.bind_eq_some_iff.1 h0
  split at h0
  ·cases h0
  ·rename_i hany
   obtain ⟨q, hq, h0⟩ := Option.bind_eq_some_iff.1 h0
   have hok' : N.ok = true := by simpa using hok
   obtain ⟨k1, k2, k3, k4⟩ := callBack_frame (ok_spec hok').1 h0
   refine ⟨k1, fun τ ht => ?_⟩
   dsimp only at ht
   have tr : Agree (e0.rd ++ e0.wr) σ τ := fun j hj => ht j (by
    simp only [List.append_assoc, List.mem_append] at hj ⊢
    rcases hj with hj | hj
    ·exact .inr (.inr (.inl hj))
    ·exact .inr (.inr (.inr hj)))
   have t1 : ∀ i, i ∈ lentRefs (G.lend f) 0 args → τ.get? i = σ.get? i := fun i hi => ht.get (by simp [hi])
   have t2 : ∀ i, i ∈ boxRefs σ N → τ.get? i = σ.get? i := fun i hi => ht.get (by simp [hi])
   have t3 : ∀ i, i ∈ N.map (·.1) → τ.get? i = σ.get? i := fun i hi => tr.right.get (k2 i hi)
   have hcol := collect_congr hN t1 t2 t3
   have hpass := passAll_congr args 0 p hp fun j hj => by
    rcases k3 j hj with hj | hj
    ·exact tr.left.get hj
    ·exact tr.right.get hj
   obtain ⟨e', m1, m2, m3, m4, m5⟩ := k4 τ tr
   refine ⟨{ e' with rd := lentRefs (G.lend f) 0 args ++ (boxRefs σ N ++ e'.rd) }, ?_, m2, by simp only [m3], m4, m5⟩
   show Ev.callA G C τ f args t = _
   unfold Ev.callA
   rw [hcol, hN, boxRefs_congr N t3]
   unfold callIn
   rw [if_neg hok, hpass, Option.bind_some, if_neg hany, ren_congr N t3, hq, Option.bind_some, m1]
   rfl
theorem Framed.op1 (inl : Bool) (e : Operand → AV) (dst : Option Tmp) (op : Op) : Framed (fun σ => evOp1 G inl e σ dst op) := by
 cases op <;> simp only [evOp1] <;> try exact Framed.nope
 case move x => exact Framed.pure _
 case assign x => exact Framed.pure _
 case pick c a b => exact Framed.pure _
 case alloc elem =>
  unfold evAlloc
  split
  ·exact Framed.newBlk _ _ _
  ·exact Framed.nope
 case box elem x =>
  unfold evBox
  exact Framed.ite (Framed.newBlk _ _ _) Framed.nope
 case build ty parts => exact Framed.pure _
 case buildSlice ty len parts => exact Framed.buildSlice _ _ _ _ _
 case load ty a => exact Framed.reads fun σ τ v hv ha => by rw [loadA_congr fun id hi => ha.get hi]; exact hv
 case store ty a x => exact Framed.storeT _ _ _
 case nilCheck x => exact Framed.pure _
 case binOp => exact Framed.pure _
 case unOp => exact Framed.pure _
 case convert => exact Framed.conv _ _ _ _
 case makeFunc => exact Framed.pure _
 case makeSlice => exact Framed.makeSlice _ _ _ _ _
 case slice ty x lo hi mx => exact Framed.reads fun σ τ v hv ha => by rw [evSlice_congr fun id hi => ha.get hi]; exact hv
 case fieldAddr => exact Framed.pure _
 case field => exact Framed.pure _
 case indexAddr => exact Framed.pure _
 case index => exact Framed.pure _
 case extract => exact Framed.pure _
theorem Framed.op (C : Oracle) (f : FuncId) (ts : List AV) (o : Oper) : Framed (fun σ => evOp G C f ts σ o) := by
 obtain ⟨dst, op, type, pos, after, guard⟩ := o
 unfold evOp
 cases op with
 | call c =>
  simp only [evCall]
  cases c.callee with
  | value x =>
   simp only [evCallee]
   split
   ·split
    ·exact Framed.ite Framed.nope (Framed.callA _ _ _ _)
    ·exact Framed.nope
   ·exact Framed.nope
  | invoke a b => exact Framed.nope
  | builtin b =>
   simp only [evBuiltin]
   cases b <;> try exact Framed.nope
   case len =>
    simp only
    split
    ·exact Framed.pure _
    ·exact Framed.nope
   case append =>
    simp only
    split
    ·split
     ·exact Framed.nope
     ·exact Framed.append _ _ _ _
     ·exact Framed.nope
    ·exact Framed.nope
   case max => exact Framed.pure _
   case min => exact Framed.pure _
 | _ => exact Framed.op1 _ _ _ _
end
end Go.Ev
namespace Go.Ev
open Go Go.RowKit
theorem mayFirst_spec {ops : Array Oper} {listed : Array Bool} {i : Nat} (h : mayFirst ops listed i = true) : ∃ o, ops[i]? = some o ∧
  ∀ j oj, ops[j]? = some oj → j ≠ i → listed.getD j true = false → (∀ e ∈ oj.after, Region.binds .any e = true → e.on ≠ i) → o.apart ops oj = true := by
 unfold mayFirst at h
 split at h
 ·rename_i o ho
  refine ⟨o, ho, fun j oj hj hji hl hw => ?_⟩
  have hlt : j < ops.size := (Array.getElem?_eq_some_iff.1 hj).1
  have := List.all_eq_true.1 h j (List.mem_range.2 hlt)
  rw [hj] at this
  simp only [Bool.or_eq_true, beq_iff_eq, hl, Bool.false_eq_true, or_false] at this
  rcases this with (h1 | h1) | h1
  ·exact absurd h1 hji
  ·obtain ⟨e, he, h2⟩ := List.any_eq_true.1 h1
   simp only [Bool.and_eq_true, beq_iff_eq] at h2
   exact absurd h2.2 (hw e (by simpa using he) h2.1)
  ·exact h1
 ·cases h
theorem memId_iff {i : Id} : ∀ {l : List Id}, memId i l = true ↔ i ∈ l
 | [] => by simp [memId]
 | j :: r => by
  simp only [memId, List.mem_cons]
  split
  ·rename_i h; simp [h]
  ·rename_i h
   rw [memId_iff]
   constructor
   ·exact .inr
   ·rintro (e | e)
    ·exact absurd e.symm h
    ·exact e
theorem disj_spec {a b : List Id} (h : disj a b = true) : ∀ i, i ∈ a → i ∉ b := fun i hi hb => by
 have := List.all_eq_true.1 h i hi
 rw [memId_iff.2 hb] at this
 cases this
section
variable {G : Cfg} {C : Oracle} {f : FuncId} {ops : Array Oper} {fin : St}
theorem St.same_refl (s : St) : s.same s := ⟨rfl, fun _ => ⟨rfl, rfl⟩⟩
theorem St.same_trans {s t u : St} (h : s.same t) (k : t.same u) : s.same u := ⟨h.1.trans k.1, fun id => ⟨(h.2 id).1.trans (k.2 id).1, (h.2 id).2.trans (k.2 id).2⟩⟩
theorem St.same_symm {s t : St} (h : s.same t) : t.same s := ⟨h.1.symm, fun id => ⟨(h.2 id).1.symm, (h.2 id).2.symm⟩⟩
theorem evStep_frame {i : Nat} {o : Oper} (hi : ops[i]? = some o) {s s' : St} {rd wr : List Id} (h : evStep G C f ops i s = some (s', rd, wr)) :
  ∃ v, s'.ts = putT s.ts o.dst v ∧ (∀ id, id ∉ wr → s'.σ.get? id = s.σ.get? id ∧ s'.σ.has id = s.σ.has id) ∧
   ∀ t : St, Agree (rd ++ wr) s.σ t.σ → (∀ x ∈ o.op.operands, evOpd G t.ts x = evOpd G s.ts x) → wantedA ops.toList t.ts o = wantedA ops.toList s.ts o →
    ∃ τ, evStep G C f ops i t = some (⟨putT t.ts o.dst v, τ⟩, rd, wr) ∧ Agree wr s'.σ τ ∧ (∀ id, id ∉ wr → τ.get? id = t.σ.get? id ∧ τ.has id = t.σ.has id) := by
 unfold evStep at h
 simp only [hi] at h
 split at h
 ·rename_i hw
  obtain ⟨e, he, h⟩ := Option.map_eq_some_iff.1 h
  cases h
  obtain ⟨k1, k2⟩ := Framed.op C f s.ts o s.σ e he
  refine ⟨e.val, rfl, k1, fun t ha hx hw' => ?_⟩
  obtain ⟨e', m1, m2, m3, m4, m5⟩ := k2 t.σ ha
  have m1' : evOp G C f t.ts t.σ o = some e' := by rw [evOp_congr o hx]; exact m1
  refine ⟨e'.σ, ?_, m5, ?_⟩
  ·unfold evStep
   simp only [hi, hw', hw, m1', Option.map_some, m2, m3, m4]
  ·have := (Framed.op C f s.ts o t.σ e' m1).1
   rw [m4] at this
   exact this
 ·rename_i hw
  cases h
  refine ⟨undefA, rfl, fun _ _ => ⟨rfl, rfl⟩, fun t ha hx hw' => ⟨t.σ, ?_, (fun _ hi => by cases hi), fun _ _ => ⟨rfl, rfl⟩⟩⟩
  unfold evStep
  simp only [hi, hw', hw]
 ·cases h
theorem evStep_same {i : Nat} {s s' t : St} {fp : List Id × List Id} (h : evStep G C f ops i s = some (s', fp)) (hs : s.same t) : ∃ t', evStep G C f ops i t = some (t', fp) ∧ s'.same t' := by
 obtain ⟨rd, wr⟩ := fp
 cases hi : ops[i]? with
 | none =>
  unfold evStep at h
  simp only [hi] at h
  cases h
  exact ⟨t, by unfold evStep; simp only [hi], hs⟩
 | some o =>
  obtain ⟨v, h1, h2, h3⟩ := evStep_frame hi h
  obtain ⟨τ, k1, k2, k3⟩ := h3 t (fun id _ => ⟨(hs.2 id).1.symm, (hs.2 id).2.symm⟩) (fun x _ => by rw [hs.1]) (by rw [hs.1])
  refine ⟨_, k1, by rw [h1, hs.1], fun id => ?_⟩
  by_cases hm : id ∈ wr
  ·exact ⟨(k2 id hm).1.symm, (k2 id hm).2.symm⟩
  ·exact ⟨(h2 id hm).1.trans ((hs.2 id).1.trans (k3 id hm).1.symm), (h2 id hm).2.trans ((hs.2 id).2.trans (k3 id hm).2.symm)⟩
def AllOkF (G : Cfg) (C : Oracle) (f : FuncId) (ops : Array Oper) (fin : St) : List (Nat × List Id × List Id) → Nat → Array Bool → St → Prop
 | _, 0, listed, s => Region.ready .any ops listed = [] ∧ s.same fin
 | Ws, n + 1, listed, s => (Region.ready .any ops listed = [] → s.same fin) ∧
  ∀ j ∈ Region.ready .any ops listed, ∃ s' rd wr, evStep G C f ops j s = some (s', rd, wr) ∧ apartW ops j rd wr Ws = true ∧ AllOkF G C f ops fin Ws n (listed.setIfInBounds j true) s'
theorem AllOkF.plain : ∀ (n : Nat) (Ws : List (Nat × List Id × List Id)) (listed : Array Bool) (s : St), AllOkF G C f ops fin Ws n listed s → AllOk G C f ops fin n listed s
 | 0, _, _, _, h => ⟨h.1, h.2.1, h.2.2⟩
 | n + 1, Ws, listed, s, h => ⟨fun hr => h.1 hr, fun j hj => by
   obtain ⟨s', rd, wr, h1, _, h3⟩ := h.2 j hj
   exact ⟨s', _, h1, AllOkF.plain n Ws _ s' h3⟩⟩
theorem AllOkF.same : ∀ (n : Nat) (Ws : List (Nat × List Id × List Id)) (listed : Array Bool) (s t : St), AllOkF G C f ops fin Ws n listed s → s.same t → AllOkF G C f ops fin Ws n listed t
 | 0, _, _, _, _, h, hs => ⟨h.1, St.same_trans (St.same_symm hs) h.2⟩
 | n + 1, Ws, listed, s, t, h, hs => ⟨fun hr => St.same_trans (St.same_symm hs) (h.1 hr), fun j hj => by
   obtain ⟨s', rd, wr, h1, h2, h3⟩ := h.2 j hj
   obtain ⟨t', k1, k2⟩ := evStep_same h1 hs
   exact ⟨t', rd, wr, k1, h2, AllOkF.same n Ws _ s' t' h3 k2⟩⟩
theorem AllOkF.drop {p : Nat × List Id × List Id} : ∀ (n : Nat) (Ws : List (Nat × List Id × List Id)) (listed : Array Bool) (s : St), AllOkF G C f ops fin (p :: Ws) n listed s → AllOkF G C f ops fin Ws n listed s
 | 0, _, _, _, h => h
 | n + 1, Ws, listed, s, h => ⟨h.1, fun j hj => by
   obtain ⟨s', rd, wr, h1, h2, h3⟩ := h.2 j hj
   obtain ⟨i, r, w⟩ := p
   simp only [apartW, Bool.and_eq_true] at h2
   exact ⟨s', rd, wr, h1, h2.2, AllOkF.drop n Ws _ s' h3⟩⟩
def Closed (ops : Array Oper) (listed : Array Bool) : Prop := ∀ k ok, ops[k]? = some ok → listed.getD k false = true → ∀ e ∈ ok.after, Region.binds .any e = true → listed.getD e.on false = true
theorem waitsT_listed {listed : Array Bool} (hc : Closed ops listed) {i : Nat} : ∀ (n j : Nat) (oj : Oper), ops[j]? = some oj → (∀ e ∈ oj.after, Region.binds .any e = true → listed.getD e.on false = true) → waitsT ops n j i = true → listed.getD i false = true
 | 0, _, _, _, _, h => by simp [waitsT] at h
 | n + 1, j, oj, hj, ha, h => by
  simp only [waitsT, hj, Bool.or_eq_true] at h
  rcases h with h | h
  ·obtain ⟨e, he, h2⟩ := List.any_eq_true.1 h
   simp only [Bool.and_eq_true, beq_iff_eq] at h2
   have := ha e (by simpa using he) h2.1
   rw [h2.2] at this
   exact this
  ·obtain ⟨e, he, h2⟩ := List.any_eq_true.1 h
   simp only [Bool.and_eq_true] at h2
   have hl := ha e (by simpa using he) h2.1
   cases ho : ops[e.on]? with
   | none => exact absurd h2.2 (by cases n <;> simp [waitsT, ho])
   | some oe => exact waitsT_listed hc n e.on oe ho (hc e.on oe ho hl) h2.2
theorem Closed.step {listed : Array Bool} (hc : Closed ops listed) {j : Nat} (hj : j ∈ Region.ready .any ops listed) : Closed ops (listed.setIfInBounds j true) := by
 obtain ⟨_, oj, hoj, hall⟩ := mem_ready.1 hj
 have up : ∀ k, listed.getD k false = true → (listed.setIfInBounds j true).getD k false = true := by
  intro k hk
  by_cases h : j = k
  ·subst h
   have hlt : j < listed.size := by
    rcases Nat.lt_or_ge j listed.size with h' | h'
    ·exact h'
    ·simp [Array.getElem?_eq_none h'] at hk
   simp [hlt]
  ·rw [getD_set_ne false h]; exact hk
 intro k ok hok hk e he hb
 by_cases h : j = k
 ·subst h
  rw [hoj] at hok
  cases hok
  exact up _ (by simpa using hall e he hb)
 ·rw [getD_set_ne false h] at hk
  exact up _ (hc k ok hok hk e he hb)
theorem AllOkF.first {i : Nat} {o : Oper} (hi : ops[i]? = some o) {rd wr : List Id} {Ws : List (Nat × List Id × List Id)} : ∀ (n : Nat) (listed : Array Bool) (s si : St),
  (∀ j oj, ops[j]? = some oj → j ≠ i → listed.getD j true = false → (∀ e ∈ oj.after, Region.binds .any e = true → e.on ≠ i) → o.apart ops oj = true) →
  Closed ops listed → i ∈ Region.ready .any ops listed → evStep G C f ops i s = some (si, rd, wr) → apartW ops i rd wr Ws = true → AllOkF G C f ops fin ((i, rd, wr) :: Ws) n (listed.setIfInBounds i true) si → AllOkF G C f ops fin Ws (n + 1) listed s := by
 intro n
 induction n with
 | zero =>
  intro listed s si _ _ hr hy ha H
  refine ⟨fun h => (by rw [h] at hr; cases hr), fun j hj => ?_⟩
  by_cases hji : j = i
  ·subst hji
   exact ⟨_, _, _, hy, ha, H⟩
  ·have := ready_mono hj hji
   rw [H.1] at this
   cases this
 | succ n ih =>
  intro listed s si hfree hcl hr hy ha H
  refine ⟨fun h => (by rw [h] at hr; cases hr), fun j hj => ?_⟩
  by_cases hji : j = i
  ·subst hji
   exact ⟨_, _, _, hy, ha, AllOkF.drop _ _ _ _ H⟩
  ·obtain ⟨sij, rdj, wrj, k1, k2, k3⟩ := H.2 j (ready_mono hj hji)
   obtain ⟨hjun, oj, hoj, hall⟩ := mem_ready.1 hj
   have hnot : ∀ e ∈ oj.after, Region.binds .any e = true → e.on ≠ i := fun e he hb heq => by
    have h1 := hall e he hb
    have h0 := (mem_ready.1 hr).1
    rw [heq] at h1
    rcases Nat.lt_or_ge i listed.size with h' | h'
    ·simp [h'] at h0 h1; rw [h0] at h1; cases h1
    ·simp [Array.getElem?_eq_none h'] at h1
   have hnw : waitsT ops ops.size j i = false := by
    cases hwf : waitsT ops ops.size j i with
    | false => rfl
    | true =>
     have := waitsT_listed hcl ops.size j oj hoj (fun e he hb => by simpa using hall e he hb) hwf
     have h0 := (mem_ready.1 hr).1
     rcases Nat.lt_or_ge i listed.size with h' | h'
     ·simp [h'] at h0 this; rw [h0] at this; cases this
     ·simp [Array.getElem?_eq_none h'] at this
   simp only [apartW, hnw, Bool.or_false, Bool.and_eq_true] at k2
   obtain ⟨⟨d1, d2, d3⟩, k2⟩ := k2
   have d1 := disj_spec d1
   have d2 := disj_spec d2
   have d3 := disj_spec d3
   obtain ⟨a1, a2, a3⟩ := Oper.apart_spec (hfree j oj hoj hji hjun hnot)
   obtain ⟨vi, p1, p2, p3⟩ := evStep_frame hi hy
   obtain ⟨vj, q1, q2, q3⟩ := evStep_frame hoj k1
   have opj : ∀ (ts : List AV) (v : AV), ∀ x ∈ oj.op.operands, evOpd G ts x = evOpd G (putT ts o.dst v) x := fun ts v x hx => by
    cases hd : o.dst with
    | none => rfl
    | some d => exact (evOpd_set fun hxd => a1 d hd (by subst hxd; exact List.mem_append_left _ (List.mem_filterMap.2 ⟨.tmp d, by simpa using hx, rfl⟩))).symm
   have opi : ∀ (ts : List AV) (v : AV), ∀ x ∈ o.op.operands, evOpd G (putT ts oj.dst v) x = evOpd G ts x := fun ts v x hx => by
    cases hd : oj.dst with
    | none => rfl
    | some d => exact evOpd_set fun hxd => a3 d hd (by subst hxd; exact List.mem_append_left _ (List.mem_filterMap.2 ⟨.tmp d, by simpa using hx, rfl⟩))
   obtain ⟨σj, r1, r2, r3⟩ := q3 s (fun id hid => by
     have hn : id ∉ wr := by
      rcases List.mem_append.1 hid with h | h
      ·exact d1 id h
      ·exact d3 id h
     exact ⟨(p2 id hn).1.symm, (p2 id hn).2.symm⟩)
    (fun x hx => by rw [p1]; exact opj _ _ x hx) (by rw [p1]; exact (wantedA_put oj o.dst vi a1).symm)
   obtain ⟨σji, t1, t2, t3⟩ := p3 ⟨putT s.ts oj.dst vj, σj⟩ (fun id hid => by
     have hn : id ∉ wrj := by
      rcases List.mem_append.1 hid with h | h
      ·exact fun hm => d2 id hm h
      ·exact fun hm => d3 id hm h
     exact r3 id hn)
    (fun x hx => opi _ _ x hx) (wantedA_put o oj.dst vj a3)
   have hsame : sij.same ⟨putT (putT s.ts oj.dst vj) o.dst vi, σji⟩ := by
    refine ⟨by rw [q1, p1]; exact putT_comm _ _ _ a2, fun id => ?_⟩
    by_cases hm : id ∈ wr
    ·have hn : id ∉ wrj := fun h => d3 id h hm
     exact ⟨(q2 id hn).1.trans (t2 id hm).1.symm, (q2 id hn).2.trans (t2 id hm).2.symm⟩
    ·by_cases hmj : id ∈ wrj
     ·exact ⟨(r2 id hmj).1.symm.trans (t3 id hm).1.symm, (r2 id hmj).2.symm.trans (t3 id hm).2.symm⟩
     ·exact ⟨((q2 id hmj).1.trans (p2 id hm).1).trans ((r3 id hmj).1.symm.trans (t3 id hm).1.symm), ((q2 id hmj).2.trans (p2 id hm).2).trans ((r3 id hmj).2.symm.trans (t3 id hm).2.symm)⟩
   refine ⟨_, _, _, r1, k2, ?_⟩
   refine ih (listed.setIfInBounds j true) _ _ (fun k ok hk hki hun hno => ?_) (hcl.step hj) (ready_mono hr (Ne.symm hji)) t1 ha ?_
   ·refine hfree k ok hk hki ?_ hno
    by_cases hjk : j = k
    ·subst hjk; exact hjun
    ·rw [getD_set_ne true hjk] at hun; exact hun
   ·rw [Array.setIfInBounds_comm _ _ hji]
    exact AllOkF.same _ _ _ _ _ k3 hsame
theorem evF_run : ∀ (n : Nat) (listed : Array Bool) (p : List Nat) (Ws : List (Nat × List Id × List Id)) (s r : St), Closed ops listed → ordOf ops n listed = some p → evF G C f ops p Ws s = some r → AllOkF G C f ops r Ws n listed s
 | 0, listed, p, Ws, s, r, _, hp, h => by
  simp only [ordOf] at hp
  split at hp
  ·rename_i hr
   cases hp
   simp only [evF] at h
   cases h
   exact ⟨hr, St.same_refl _⟩
  ·cases hp
 | n + 1, listed, p, Ws, s, r, hcl, hp, h => by
  simp only [ordOf] at hp
  split at hp
  ·rename_i hr
   cases hp
   simp only [evF] at h
   cases h
   exact ⟨fun _ => St.same_refl _, fun j hj => by rw [hr] at hj; cases hj⟩
  ·rename_i hne
   split at hp
   ·rename_i i hf
    obtain ⟨p', hp', rfl⟩ := Option.map_eq_some_iff.1 hp
    have hmem := List.mem_of_find?_eq_some hf
    obtain ⟨o, ho, hfree⟩ := mayFirst_spec (List.find?_some hf)
    simp only [evF] at h
    obtain ⟨q, hq, h⟩ := Option.bind_eq_some_iff.1 h
    obtain ⟨si, rd, wr⟩ := q
    split at h
    ·rename_i hw
     exact AllOkF.first ho n listed s si hfree hcl hmem hq hw (evF_run n _ _ _ _ _ (hcl.step hmem) hp' h)
    ·cases h
   ·cases hp
end
theorem draw_ok {G : Cfg} (hm : G.P.follows .mixedOrders = true) : DrawOk G := by
 intro C hC f ops id s s' h c a w hR ht Q hQ
 unfold evRegion at h
 rw [if_pos rfl] at h
 obtain ⟨p, hp, h⟩ := Option.bind_eq_some_iff.1 h
 exact AllOk.region hC hm (AllOkF.plain _ _ _ _ (evF_run _ _ _ _ _ _ (fun k ok hk hl => by
  have hlt := (Array.getElem?_eq_some_iff.1 hk).1
  simp [hlt] at hl) hp h)) hR ht hQ
theorem call_sound {G : Cfg} (hP : NoCount G.P) (hE : ExtOk G) (hm : G.P.follows .mixedOrders = true) : CallOk G (call G) := call_run hP hE (draw_ok hm)
end Go.Ev
