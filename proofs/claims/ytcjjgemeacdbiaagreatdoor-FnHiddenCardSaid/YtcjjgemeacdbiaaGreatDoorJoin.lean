/-
  The tied card of laws.FnHidden: for every input the call returns true, and each argument reads afterwards as it read before.
  Conditions: the row's own alone: the package variable impl.directions holds when the call begins what the program's text lays (the card ties it).
-/
import Derived.Test.YtcjjgemeacdbiaaGreatDoorC2
import Derived.Test.YtcjjgemeacdbiaaGreatDoorCards
import Derived.Test.YtcjjgemeacdbiaaGreatDoorTie
import Derived.WalkKit
import Derived.ProofKit
import Derived.OpenShut
import Derived.Deep.DeepHandedRow
import Derived.Lib.LaidTab
import Derived.Carry
namespace Go.Proofs.YtcjjgemeacdbiaaGreatDoor
open Go Go.ChangeShapes Go.WideShapes Go.ChangeAt Go.RowKit
set_option maxRecDepth 100000

theorem own : ownKnob Tryz.prog.godebug = none := by kernel_rfl
theorem laidOut : laidOutB Tryz.prog = true := by kernel_rfl
theorem gDir : Tryz.prog.globalNamed "loop.example/g00886/impl.directions" = some 0 := by kernel_rfl
theorem gDirType : (Tryz.prog.globals[0]?).map (·.type) = some 93 := by kernel_rfl
theorem cells5 : Tryz.prog.cellsOf 5 = 1 := by kernel_rfl
theorem cells92 : Tryz.prog.cellsOf 92 = 2 := by kernel_rfl
theorem cells93 : Tryz.prog.cellsOf 93 = 12 := by kernel_rfl
theorem cells3 : Tryz.prog.cellsOf 3 = 1 := by kernel_rfl
theorem noCount : Go.Ev.NoCount Tryz.prog := by
  have h : Tryz.prog.funcs.toList.all (fun fn => !(fn.name == "runtime.NumGoroutine")) = true := by kernel_rfl
  intro f fn hf
  have := List.all_eq_true.1 h fn (Array.mem_toList_iff.2 (Array.mem_of_getElem? hf))
  simpa using this
theorem mixed : Tryz.prog.follows .mixedOrders = true := by kernel_rfl

/-- A pair of numbers, opened. -/
theorem pair {H : Type} {enc : TypeId × Value → H} {w : World} {base : Nat} {sp : Nat → Bool} {hd : Bool} {fuel : Nat} {cs : List Value} {x : DataW H × List MemPlace} {a b : Int}
    (h : DataW.trod enc Tryz.prog w base sp hd fuel 92 cs = some x) (hx : x.1 = .agg [.lit (.int .i64 a), .lit (.int .i64 b)]) : cs = [.int .i64 a, .int .i64 b] := by
  obtain ⟨y0, y1, n, rfl, hl, h0, h1⟩ := trod_struct2 Tryz.underlying92 h
  rw [cells92] at hl
  match cs, hl with
  | [u, v], _ =>
    simp only [DataW.agg.injEq, List.cons.injEq, and_true] at hx
    obtain ⟨e0, e1⟩ := hx
    obtain ⟨z0, hz0, rfl, _⟩ := DataW.trod_int Tryz.underlying3 h0
    obtain ⟨z1, hz1, rfl, _⟩ := DataW.trod_int Tryz.underlying3 h1
    simp only [cells3, List.drop_zero, List.take_succ_cons, List.take_zero, List.drop_succ_cons, List.cons.injEq, and_true] at hz0 hz1
    subst hz0; subst hz1
    simp only [DataW.lit.injEq, Lit.int.injEq, true_and] at e0 e1
    subst e0; subst e1
    rfl

/-- WHAT THE ROW's LIST GIVES: the table's twelve cells. -/
theorem table {W : World} (h : laidMetH Tryz.prog Rows.fnHiddenRow.laid W) : World.var? Tryz.prog W "loop.example/g00886/impl.directions" =
    some #[.int .i64 1, .int .i64 0, .int .i64 1, .int .i64 (-1), .int .i64 0, .int .i64 (-1), .int .i64 (-1), .int .i64 0, .int .i64 (-1), .int .i64 1, .int .i64 0, .int .i64 1] := by
  have h' : laidMet Tryz.prog [("loop.example/g00886/impl.directions", Rows.laid_loop_example_g00886_impl_directions)] W := h
  obtain ⟨ps, ⟨g', t', cs, fuel, p, q, hg', ht', hvar, hd, _, _⟩, _⟩ := h'
  obtain rfl := Option.some.inj (gDir.symm.trans hg')
  obtain rfl := Option.some.inj (gDirType.symm.trans ht')
  obtain ⟨xs, m, _, hx, hl, hlen, hel⟩ := DataW.trod_array Tryz.underlying93 hd
  rw [cells93] at hl
  simp only [Prod.mk.injEq, Rows.laid_loop_example_g00886_impl_directions, DataW.agg.injEq] at hx
  match xs, hlen with
  | [x0, x1, x2, x3, x4, x5], _ =>
    obtain ⟨hx, _⟩ := hx
    simp only [List.map_cons, List.map_nil, List.cons.injEq, and_true] at hx
    obtain ⟨e0, e1, e2, e3, e4, e5⟩ := hx
    have h0 := pair (hel 0 (by omega)) e0.symm
    have h1 := pair (hel 1 (by omega)) e1.symm
    have h2 := pair (hel 2 (by omega)) e2.symm
    have h3 := pair (hel 3 (by omega)) e3.symm
    have h4 := pair (hel 4 (by omega)) e4.symm
    have h5 := pair (hel 5 (by omega)) e5.symm
    rw [cells92] at h0 h1 h2 h3 h4 h5
    rw [hvar]
    congr 1
    apply Array.toList_inj.1
    generalize cs.toList = l at *
    match l, hl with
    | [c0, c1, c2, c3, c4, c5, c6, c7, c8, c9, c10, c11], _ =>
      simp at h0 h1 h2 h3 h4 h5
      simp [h0, h1, h2, h3, h4, h5]

open Go.Ev in
theorem flatY_length (l : List UInt8) : (l.flatMap cY).length = l.length := by
  induction l with
  | nil => rfl
  | cons a r ih => simp [cY, ih]
open Go.Ev in
theorem flatY_get (l : List UInt8) (j : Nat) : (l.flatMap cY)[j]? = l[j]?.map Y := by
  induction l generalizing j with
  | nil => simp
  | cons a r ih => cases j with
    | zero => simp [cY]
    | succ j => simpa [cY] using ih j
open Go.Ev in
/-- A []byte THAT CAME IN. -/
theorem bytes_in {H : Type} {enc : TypeId × Value → H} {W : World} {r : Reach} {b0 : Nat} {v : Value} {d : DataW H} {p : List MemPlace} (hval : Value.okWide Tryz.prog W r b0 22 v)
    (h : DataW.Trod enc Tryz.prog W 0 (fun _ => true) true 22 v d p) : ∃ (x : KSl) (l : List UInt8), v = .slice x.A x.n x.k ∧ l.length = x.n ∧ VC (fun b => b < W.heap.size) W (.sl 0 x.n (l.flatMap cY)) v := by
  obtain ⟨A, n, k, rfl⟩ := okWide_slice Tryz.underlying22 hval
  obtain ⟨fuel, hf⟩ := h
  rcases open_ints Tryz.underlying22 Tryz.underlying5 cells5 hf with ⟨hcs, _⟩ | ⟨a, len, cap, zs, hcs, _, hle, _, hall, _, hcell, hwf⟩
  · simp [Value.cells] at hcs
    obtain ⟨rfl, rfl, rfl⟩ := hcs
    refine ⟨⟨none, 0, 0⟩, [], rfl, rfl, ?_⟩
    simp [VC, NN]
  · simp [Value.cells] at hcs
    obtain ⟨rfl, rfl, rfl⟩ := hcs
    simp only [if_true] at hall
    refine ⟨⟨some a, n, k⟩, (zs.take n).map fun z => UInt8.ofNat z.toNat, rfl, by simp; omega, ?_⟩
    have hv : VC (fun b => b < W.heap.size) W (.sl 0 n (((zs.take n).map fun z => UInt8.ofNat z.toNat).flatMap cY)) (.slice (some a) n k) := by
      simp only [VC]
      refine ⟨some a, k, rfl, hle, NN.of (by simp), ?_⟩
      by_cases h0 : n = 0
      · left; simp [h0]
      · right
        obtain ⟨b, off, rfl, hc⟩ := ints_at hcell (by omega)
        refine ⟨b, off, rfl, ?_, VCs_mk fun j x hx => ?_⟩
        · have := hc 0 (by omega)
          unfold World.cell? at this
          split at this
          · rename_i hb
            exact (Array.getElem?_eq_some_iff.1 hb).1
          · cases this
        · rw [flatY_get] at hx
          obtain ⟨y, hy, rfl⟩ := Option.map_eq_some_iff.1 hx
          have hj : j < n := by
            have := (List.getElem?_eq_some_iff.1 hy).1
            simp at this
            omega
          rw [List.getElem?_map, List.getElem?_take, if_pos hj, List.getElem?_eq_getElem (by omega : j < zs.length)] at hy
          simp only [Option.map_some, Option.some.injEq] at hy
          refine ⟨_, hc j (by omega), ?_⟩
          have hz : zs.getD j 0 = zs[j]'(by omega) := by simp [List.getD, List.getElem?_eq_getElem (by omega : j < zs.length)]
          have hb := bounds_u8 (hwf _ (List.getElem_mem (by omega : j < zs.length)))
          simp only [VC]
          refine ⟨?_, rfl⟩
          subst hy
          rw [hz]
          congr 1
          simp
          omega
    exact hv

open Go.Ev in
/-- The slices of bytes that lie in this world. -/
noncomputable def knOf (W : World) : Value → Option (Nat × List AV) := open Classical in fun v =>
  if h : ∃ l : List UInt8, VC (fun b => b < W.heap.size) W (.sl 0 l.length (l.flatMap cY)) v then some (h.choose.length, h.choose.flatMap cY) else none
open Go.Ev in
theorem knOf_arg {W : World} {A : Option Addr} {n k : Nat} (h : ∃ l : List UInt8, l.length = n ∧ VC (fun b => b < W.heap.size) W (.sl 0 n (l.flatMap cY)) (.slice A n k)) :
    ∃ l : List UInt8, knOf W (.slice A n k) = some (l.length, l.flatMap cY) ∧ l.length = n := by
  obtain ⟨l, rfl, hl⟩ := h
  have hex : ∃ l' : List UInt8, VC (fun b => b < W.heap.size) W (.sl 0 l'.length (l'.flatMap cY)) (.slice A l.length k) := ⟨l, hl⟩
  refine ⟨hex.choose, by unfold knOf; rw [dif_pos hex], ?_⟩
  have hc := hex.choose_spec
  simp only [VC] at hc
  obtain ⟨A', k', he, _⟩ := hc
  exact (Value.slice.inj he).2.1.symm
open Go.Ev in
def c0 (W : World) : Cx := { m := fun _ => none, kn := fun _ => False, S := fun b => b < W.heap.size, base := W.heap.size }
open Go.Ev in
theorem rel0 {W : World} (hT : World.var? Tryz.prog W "loop.example/g00886/impl.directions" =
    some #[.int .i64 1, .int .i64 0, .int .i64 1, .int .i64 (-1), .int .i64 0, .int .i64 (-1), .int .i64 (-1), .int .i64 0, .int .i64 (-1), .int .i64 1, .int .i64 0, .int .i64 1]) :
    @Rel (@G ⟨⟨knOf W⟩⟩) (c0 W) [] W where
  inj := by intro k k' b sh e sh' e' h; simp [c0] at h
  lt := by intro b ⟨k, sh, e, h⟩; simp [c0] at h
  kn := by intro id; simp [c0, Store.has]
  dom := by intro id sub h; simp [c0] at h
  blk := by intro id blk h; simp [Store.get?] at h
  sS := by intro b hb; exact ⟨hb, by intro ⟨k, sh, e, h⟩; simp [c0] at h⟩
  base := Nat.le_refl _
  glob := by
    intro g cs h
    unfold G at h
    simp only at h
    cases g with
    | succ g => cases h
    | zero =>
      simp only [Nat.beq_refl, cond_true, Option.some.injEq] at h
      subst h
      refine ⟨?_, VCs_mk fun j x hx => ?_⟩
      · unfold World.var? at hT
        rw [gDir] at hT
        simp only [Option.bind_some] at hT
        split at hT
        · rename_i hb
          exact (Array.getElem?_eq_some_iff.1 hb).1
        · cases hT
      · have hc := World.var?_cell gDir hT j
        rw [Nat.zero_add]
        have hj : j < 12 := by have := (List.getElem?_eq_some_iff.1 hx).1; simpa using this
        match j, hj with
        | 0, _ | 1, _ | 2, _ | 3, _ | 4, _ | 5, _ | 6, _ | 7, _ | 8, _ | 9, _ | 10, _ | 11, _ =>
          simp at hx
          subst hx
          exact ⟨_, hc, by simp [VC, Value.oneCell']⟩
  know := by
    intro v n xs h
    simp only [G] at h
    change knOf W v = some (n, xs) at h
    unfold knOf at h
    split at h
    · rename_i hex
      simp only [Option.some.injEq, Prod.mk.injEq] at h
      obtain ⟨rfl, rfl⟩ := h
      exact hex.choose_spec
    · cases h
open Go.Ev in
/-- THE WALK, FOR EVERY PAIR OF SLICES IN EVERY WORLD THAT HOLDS THE TABLE. -/
theorem walk {W : World} {x y : KSl} {l m : List UInt8} (hT : World.var? Tryz.prog W "loop.example/g00886/impl.directions" =
    some #[.int .i64 1, .int .i64 0, .int .i64 1, .int .i64 (-1), .int .i64 0, .int .i64 (-1), .int .i64 (-1), .int .i64 0, .int .i64 (-1), .int .i64 1, .int .i64 0, .int .i64 1])
    (hl : l.length = x.n) (hx : VC (fun b => b < W.heap.size) W (.sl 0 x.n (l.flatMap cY)) (.slice x.A x.n x.k)) (hm : m.length = y.n) (hy : VC (fun b => b < W.heap.size) W (.sl 0 y.n (m.flatMap cY)) (.slice y.A y.n y.k)) :
    Calls Tryz.prog 3 #[.slice x.A x.n x.k, .slice y.A y.n y.k] W fun e W' => e = .returned (.bool true) ∧ Below W.heap.size W W' := by
  letI : Inhabited Known := ⟨⟨knOf W⟩⟩
  have hc : Arg x := knOf_arg ⟨l, hl, hx⟩
  have hd : Arg y := knOf_arg ⟨m, hm, hy⟩
  have hA : call G 3 [Kn x, Kn y] [] = some (B true, []) := law_laws_FnHidden x y hc hd
  have hS := call_sound (G := G) noCount (ExtOk.none fun _ _ => rfl) mixed 3 [Kn x, Kn y] [] _ _ hA (c0 W) W [.slice x.A x.n x.k, .slice y.A y.n y.k] (rel0 hT) (by simp [VRt, Kn, VR])
  refine hS.mono fun e W' ⟨rv, c', he, _, hv, hF⟩ => ?_
  simp only [VR] at hv
  subst hv
  exact ⟨he, ⟨hF.os, hF.tape, hF.output, hF.size, fun b hb => hF.keep b hb (by intro ⟨k, sh, e, h⟩; simp [c0] at h)⟩⟩

/-- What was there when the call began has not turned; each reading stands: so the row's 'post'. -/
theorem post_of_below {H : Type} {enc : TypeId × Value → H} {P : Program} {f : Func} {s : ChangeSpec} {apart fresh handsOn again : Bool} {W W' : World} {args : Array Value} {v : Value} {ds gs : List (DataW H)} {pa pv : List MemPlace}
    (hW : DataW.Whole enc P f.params.toList s.vars apart W args.toList ds gs (pa ++ pv))
    (hres : ∀ (b : Nat) (sp : Nat → Bool) (hd : Bool), DataW.TrodAll enc P W' b sp hd f.resultTypes.toList (v.resultList f.resultTypes.size) (s.fn H (ds ++ gs)).results [])
    (hargs : ∀ sp : Nat → Bool, (∀ p ∈ pa ++ pv, sp p.block = true) → DataW.TrodAll enc P W' 0 sp true f.params.toList args.toList (s.fn H (ds ++ gs)).args pa)
    (hvars : ∀ sp : Nat → Bool, (∀ p ∈ pa ++ pv, sp p.block = true) → DataW.TrodVars enc P W' sp s.vars (s.fn H (ds ++ gs)).vars pv)
    (hb : Below W.heap.size W W')
    (hok : ∀ (j : Nat) (t : TypeId) (r : Value), f.resultTypes[j]? = some t → (v.resultList f.resultTypes.size)[j]? = some r → Value.okWide P W' .any 0 t r) :
    s.post enc P f apart fresh handsOn again W args v W' := by
  have hold : ∀ p ∈ pa ++ pv, (fun b => decide (b < W.heap.size)) p.block = true := fun p hp => by simpa using hW.lt p hp
  refine ⟨ds, gs, pa ++ pv, [], pa, pv, hW, hres _ _ _, hargs _ hold, hvars _ hold, hb.frame _, fun _ => ⟨hok, _, _, ([] ++ pa) ++ pv, ⟨[] ++ pa, pv, trodAll_append (hargs _ (fun _ _ => rfl)) (hres _ _ _), hvars _ (fun _ _ => rfl), rfl, ?_, ?_⟩, ?_⟩⟩
  · intro b off hp
    have hp' : MemPlace.cell b off ∈ pa ++ pv := by simpa using hp
    rw [hb.frozen (hW.lt _ hp')]
    obtain ⟨_, _, _, _, _, hz, _⟩ := hW
    exact hz b off hp'
  · intro ha
    obtain ⟨_, _, _, _, _, _, hn⟩ := hW
    simpa using hn ha
  · intro p hp _
    simpa using hp

theorem contract (H : Type) (enc : TypeId × Value → H) (W : World) (base : Nat) (args : Array Value) (ds gs : List (DataW H)) (before : List MemPlace)
    (hval : ∀ (j : Nat) t v, Tryz.f3.params[j]? = some t → args[j]? = some v → Value.okWide Tryz.prog W .any base t v)
    (hW : DataW.Whole enc Tryz.prog Tryz.f3.params.toList Rows.fnHiddenSpec.vars false W args.toList ds gs before) (hL : laidMetH Tryz.prog Rows.fnHiddenRow.laid W) :
    Calls Tryz.prog 3 args W fun e W' => ∃ v, e = .returned v ∧ Rows.fnHiddenSpec.post enc Tryz.prog Tryz.f3 false true false false W args v W' := by
  have hW' := hW
  obtain ⟨p, q, hA0, hV, rfl, hfz, hnd⟩ := hW
  have hA : DataW.TrodAll enc Tryz.prog W 0 (fun _ => true) true Tryz.f3.params.toList args.toList ds p := hA0
  rw [Tryz.params3] at hA hval
  obtain ⟨v0, v1, d0, d1, p0, p1, rfl, rfl, rfl, h0, h1⟩ := trodAll_two hA
  obtain ⟨x, l, rfl, hl, hx⟩ := bytes_in (hval 0 22 v0 rfl rfl) h0
  obtain ⟨y, m, rfl, hm, hy⟩ := bytes_in (hval 1 22 v1 rfl rfl) h1
  have hV' : DataW.TrodVars enc Tryz.prog W (fun _ => true) ["loop.example/g00886/impl.directions"] gs q := hV
  obtain ⟨g, t, cs, fuel, dg, pg, rfl, hg, ht, hvar, hd, rfl⟩ := trodVars_one hV'
  obtain rfl := Option.some.inj (gDir.symm.trans hg)
  obtain rfl := Option.some.inj (gDirType.symm.trans ht)
  have hlt : ∀ z ∈ p0 ++ p1 ++ (MemPlace.row ⟨0, 0, none⟩ cs.size ++ pg), z.block < W.heap.size := fun z hz => hW'.lt z hz
  have r22 : Tryz.prog.readableRec 22 = true := by kernel_rfl
  have r93 : Tryz.prog.readableRec 93 = true := by kernel_rfl
  have s22 : 22 < Tryz.prog.types.size := of_decide_eq_true (by kernel_rfl)
  have s93 : 93 < Tryz.prog.types.size := of_decide_eq_true (by kernel_rfl)
  have hg0 : 0 < W.heap.size := by
    unfold World.var? at hvar
    rw [gDir] at hvar
    simp only [Option.bind_some] at hvar
    split at hvar
    · rename_i hb
      exact (Array.getElem?_eq_some_iff.1 hb).1
    · cases hvar
  refine (walk (table hL) hl hx hm hy).mono fun e W' ⟨he, hb⟩ => ?_
  subst he
  have hvar' : World.var? Tryz.prog W' "loop.example/g00886/impl.directions" = some cs := by
    unfold World.var? at hvar ⊢
    rw [gDir] at hvar ⊢
    simp only [Option.bind_some] at hvar ⊢
    rw [hb.block 0 hg0]
    exact hvar
  exact ⟨_, rfl, post_of_below (pa := p0 ++ p1) (pv := MemPlace.row ⟨0, 0, none⟩ cs.size ++ pg) hW' (fun _ _ _ => trodAll_mk1 (shut_bool Tryz.underlying4 _))
    (fun sp hsp => trodAll_mk2 (WideElems.Trod_stays laidOut r22 s22 h0 (fun z hz => hb.same (hlt z (by simp [hz]))) (fun z hz => hsp z (by simp [hz])))
      (WideElems.Trod_stays laidOut r22 s22 h1 (fun z hz => hb.same (hlt z (by simp [hz]))) (fun z hz => hsp z (by simp [hz]))))
    (fun sp hsp => trodVars_mk1 gDir gDirType hvar' (DataW.trod_stays (kids_book laidOut r93) (book_sized r93) (fun h => by cases h) ⟨s93, book_self 93⟩ hd
      (fun z hz => hb.same (hlt z (by simp [hz]))) (fun z hz => hsp z (by simp [hz]))))
    hb (ok_one (by kernel_rfl) rfl (okWide_bool_mk Tryz.underlying4 _))⟩

/-- A WORLD FOR THE WITNESS. -/
noncomputable def laidWorld (os : Os) : World :=
  { World.holding Tryz.prog os ⟨#[], #[], []⟩ with heap := (World.holding Tryz.prog os ⟨#[], #[], []⟩).heap.modify 0 fun
      | .cells _ t frozen => .cells #[.int .i64 1, .int .i64 0, .int .i64 1, .int .i64 (-1), .int .i64 0, .int .i64 (-1), .int .i64 (-1), .int .i64 0, .int .i64 (-1), .int .i64 1, .int .i64 0, .int .i64 1] t frozen
      | o => o }
theorem laid_met (os : Os) : laidMet Tryz.prog Rows.fnHiddenRow.laid ((laidWorld os).forCall (fun _ _ => 0) ⟨#[], #[.slice none 0 0, .slice none 0 0], []⟩).memory :=
  laidMet_of_run' 8 (by kernel_rfl) (by kernel_rfl)
theorem reads (os : Os) {H : Type} (enc : TypeId × Value → H) : ∃ vars places, DataW.whole enc Tryz.prog ((laidWorld os).forCall (fun _ _ => 0) ⟨#[], #[.slice none 0 0, .slice none 0 0], []⟩).memory Tryz.f3.params.toList Rows.fnHiddenSpec.vars false #[Value.slice none 0 0, Value.slice none 0 0].toList 8 = some ([.nil, .nil], vars, places) :=
  ⟨[Rows.laid_loop_example_g00886_impl_directions], MemPlace.row ⟨0, 0, none⟩ 12, by kernel_rfl⟩

/-- THE STEP. -/
theorem lifted (os : Os) (started : os.Started) (H : Type) (enc : TypeId × Value → H) (F : Stop.Interp) :
    ReturnsInHanded {} Tryz.checked os 3 .any ((OpenSpec.ofChange Rows.fnHiddenSpec).preRow enc Tryz.prog Tryz.f3 Rows.fnHiddenRow.domain false Rows.fnHiddenRow.laid) (((OpenSpec.ofChange Rows.fnHiddenSpec).at F).post enc Tryz.prog Tryz.f3 false true false false) := by
  obtain ⟨vars, places, hx⟩ := reads os enc
  refine returnsInHanded_of_row (C := Tryz.checked) (s := OpenSpec.ofChange Rows.fnHiddenSpec) own started (by kernel_rfl) Tryz.func3
    (witness_row_at (enc := enc) (C := Tryz.checked) false (laidWorld os) #[.slice none 0 0, .slice none 0 0] rfl (by kernel_rfl) (by kernel_rfl) (by kernel_rfl)
      (OpenSpec.preRow_of_cond 8 hx (by kernel_rfl) (fun k hk => by cases hk) (by kernel_rfl) (laid_met os))) ?_
  intro W base args ds gs before hval hW _ _ _ hL _ _
  exact contract H enc W base args ds gs before hval hW hL

theorem said : Rows.FnHiddenSaid :=
  OpenClaim.holds_of_cond 3 Tryz.f3 rfl rfl rfl rfl rfl rfl rfl ⟨rfl, rfl, rfl, rfl, rfl⟩ rfl rfl rfl rfl rfl (by kernel_rfl) Tryz.func3 (by kernel_rfl)
    (of_decide_eq_true (by kernel_rfl)) (by unfold Func.isWrapper; first | (rw [if_pos (by decide +kernel)]; kernel_rfl) | (rw [if_neg (by decide +kernel)]; exact ⟨rfl, rfl⟩))
    (fun os started H enc _ F => by rw [OpenClaim.pre_eq_preRow]; exact lifted os started H enc F)

theorem plain (f : FuncId) (fn : Func) (hf : Tryz.pinned.checked.prog.funcNamed "loop.example/g00886/laws.FnHidden" = some f) (hfn : Tryz.pinned.checked.prog.funcs[f]? = some fn) :
    false = Tryz.pinned.checked.prog.looks [] ∧ ∀ (j : Nat) t, fn.params[j]? = some t → Tryz.pinned.checked.prog.wantsStandIn t = false := by
  obtain rfl : f = 3 := Option.some.inj ((show Tryz.prog.funcNamed "loop.example/g00886/laws.FnHidden" = some 3 by kernel_rfl).symm.trans hf) |>.symm
  obtain rfl : fn = Tryz.f3 := (Option.some.inj (Tryz.func3.symm.trans hfn)).symm
  refine ⟨by kernel_rfl, fun j t ht => ?_⟩
  rw [Tryz.params3] at ht
  obtain rfl : t = 22 := by simpa using Array.mem_of_getElem? ht
  exact (show Tryz.prog.wantsStandIn 22 = false by kernel_rfl)

/-- THE CARD. -/
theorem card : Rows.FnHiddenCardSaid :=
  Claim7.holds_tied_plain_at .later [] _ _ _ _ said (fun _ h => by cases h) (by kernel_rfl) (fun _ h => by cases h) fnHidden_row_tie rfl ⟨rfl, rfl⟩ (by kernel_rfl) rfl plain (by kernel_rfl)
#print axioms card
end Go.Proofs.YtcjjgemeacdbiaaGreatDoor
