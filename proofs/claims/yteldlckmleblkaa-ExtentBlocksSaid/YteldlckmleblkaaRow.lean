/-
  DERIVED, MY OWN. THE STATEMENT: ExtentBlocks answers true for every input, and each argument reads as before. No condition.
-/
import Derived.Test.YteldlckmleblkaaWkE
import Derived.Test.YteldlckmleblkaaWkA
import Derived.Test.YteldlckmleblkaaRows
import Derived.ProofKit
import Derived.OpenShut
import Derived.ChangeOld
import Derived.Below
import Derived.Lib.SmallJoins
import Derived.Deep.Slices
set_option linter.all false
/-
  DERIVED, MY OWN. THE TABLE OF CONTRACTS, filled.
-/





set_option autoImplicit false
set_option maxRecDepth 20000
namespace Go.Dv
open Go Go.RowKit Go.Proofs

theorem add_has (T : Tbl) (f : FuncId) (sp : FSpec) : (T.add f sp) f = some sp := by simp [Tbl.add]
def L0 : Tbl := Tbl.empty
theorem l0 : TblOk' Try.prog L0 := tblOk_empty
def L1 : Tbl := L0.add 23 sp23
theorem l1 : TblOk' Try.prog L1 := l0.add (fun args w => callEnter Try.func23 (by kernel_rfl) (c := Try.f23.body.getD .skip) rfl args w) (ok23)
def L2 : Tbl := L1.add 50 sp50
theorem l2 : TblOk' Try.prog L2 := l1.add (fun args w => callEnter Try.func50 (by kernel_rfl) (c := Try.f50.body.getD .skip) rfl args w) (ok50)
def L3 : Tbl := L2.add 22 sp22
theorem l3 : TblOk' Try.prog L3 := l2.add (fun args w => callEnter Try.func22 (by kernel_rfl) (c := Try.f22.body.getD .skip) rfl args w) (ok22)
def L4 : Tbl := L3.add 24 sp24
theorem l4 : TblOk' Try.prog L4 := l3.add (fun args w => callEnter Try.func24 (by kernel_rfl) (c := Try.f24.body.getD .skip) rfl args w) (ok24)
def L5 : Tbl := L4.add 56 sp56
theorem l5 : TblOk' Try.prog L5 := l4.add (fun args w => callEnter Try.func56 (by kernel_rfl) (c := Try.f56.body.getD .skip) rfl args w) (ok56)
def L6 : Tbl := L5.add 25 sp25
theorem l6 : TblOk' Try.prog L6 := l5.add (fun args w => callEnter Try.func25 (by kernel_rfl) (c := Try.f25.body.getD .skip) rfl args w) (ok25 l5 rfl)
def L7 : Tbl := L6.add 7 sp7
theorem l7 : TblOk' Try.prog L7 := l6.add (fun args w => callEnter Try.func7 (by kernel_rfl) (c := Try.f7.body.getD .skip) rfl args w) (ok7 l6 rfl rfl rfl rfl)
def L8 : Tbl := L7.add 52 sp52
theorem l8 : TblOk' Try.prog L8 := l7.add (fun args w => callEnter Try.func52 (by kernel_rfl) (c := Try.f52.body.getD .skip) rfl args w) (ok52 l7 rfl)
def L9 : Tbl := L8.add 51 sp51
theorem l9 : TblOk' Try.prog L9 := l8.add (fun args w => callEnter Try.func51 (by kernel_rfl) (c := Try.f51.body.getD .skip) rfl args w) (ok51 l8 rfl)
def L10 : Tbl := L9.add 26 sp26
theorem l10 : TblOk' Try.prog L10 := l9.add (fun args w => callEnter Try.func26 (by kernel_rfl) (c := Try.f26.body.getD .skip) rfl args w) (ok26 l9 rfl)
def L11 : Tbl := L10.add 30 sp30
theorem l11 : TblOk' Try.prog L11 := l10.add (fun args w => callEnter Try.func30 (by kernel_rfl) (c := Try.f30.body.getD .skip) rfl args w) (ok30 l10 rfl)
def L12 : Tbl := L11.add 8 sp8
theorem l12 : TblOk' Try.prog L12 := l11.add (fun args w => callEnter Try.func8 (by kernel_rfl) (c := Try.f8.body.getD .skip) rfl args w) (ok8 l11 rfl)
def L13 : Tbl := L12.add 12 sp12
theorem l13 : TblOk' Try.prog L13 := l12.add (fun args w => callEnter Try.func12 (by kernel_rfl) (c := Try.f12.body.getD .skip) rfl args w) (ok12 l12 rfl rfl)
def L14 : Tbl := L13.add 28 sp28
theorem l14 : TblOk' Try.prog L14 := l13.add (fun args w => callEnter Try.func28 (by kernel_rfl) (c := Try.f28.body.getD .skip) rfl args w) (ok28 l13)
def L15 : Tbl := L14.add 29 sp29
theorem l15 : TblOk' Try.prog L15 := l14.add (fun args w => callEnter Try.func29 (by kernel_rfl) (c := Try.f29.body.getD .skip) rfl args w) (ok29 l14 rfl)
def L16 : Tbl := L15.add 9 sp9
theorem l16 : TblOk' Try.prog L16 := l15.add (fun args w => callEnter Try.func9 (by kernel_rfl) (c := Try.f9.body.getD .skip) rfl args w) (ok9 l15 rfl rfl rfl rfl rfl rfl rfl rfl rfl)
def L17 : Tbl := L16.add 10 sp10
theorem l17 : TblOk' Try.prog L17 := l16.add (fun args w => callEnter Try.func10 (by kernel_rfl) (c := Try.f10.body.getD .skip) rfl args w) (ok10 l16 rfl rfl rfl rfl rfl)
def L18 : Tbl := L17.add 11 sp11
theorem l18 : TblOk' Try.prog L18 := l17.add (fun args w => callEnter Try.func11 (by kernel_rfl) (c := Try.f11.body.getD .skip) rfl args w) (ok11 l17 rfl rfl rfl rfl rfl)
def L19 : Tbl := L18.add 6 sp6
theorem l19 : TblOk' Try.prog L19 := l18.add (fun args w => callEnter Try.func6 (by kernel_rfl) (c := Try.f6.body.getD .skip) rfl args w) (ok6 l18 rfl rfl)
theorem law3 : FOk Try.prog 3 sp3 := ok3 l19 rfl rfl rfl rfl rfl rfl rfl
end Go.Dv

/-
  DERIVED, MY OWN. ExtentBlocks, as a row: arguments opened, the contract used, the row shut.
-/








set_option autoImplicit false
namespace Go.Dv
open Go Go.RowKit Go.Proofs Go.ChangeShapes Go.WideShapes Go.ChangeAt

section
variable {H : Type} {enc : TypeId × Value → H} {W : World} {base : Nat} {spare : Nat → Bool} {held : Bool}

/-- An extent's four cells. -/
theorem cells_of_ext {fuel : Nat} {cs : List Value} {x : DataW H × List MemPlace} (h : DataW.trod enc Try.prog W base spare held fuel 24 cs = some x) :
    ∃ e : Xt, cs = [.int .i64 e.at', .int .i64 e.start, .int .i64 e.len, .bool e.un] := by
  obtain ⟨y0, y1, y2, y3, n, _, hl, h0, h1, h2, h3⟩ := Go.Joins.trod_struct4 Try.underlying24 h
  have hc : Try.prog.cellsOf 24 = 4 := by kernel_rfl
  have hc3 : Try.prog.cellsOf 3 = 1 := by kernel_rfl
  have hc4 : Try.prog.cellsOf 4 = 1 := by kernel_rfl
  rw [hc] at hl
  match cs, hl with
  | [c0, c1, c2, c3], _ =>
    simp only [hc3, hc4] at h0 h1 h2 h3
    obtain ⟨n0, e0, _, _⟩ := DataW.trod_int Try.underlying3 h0
    obtain ⟨n1, e1, _, _⟩ := DataW.trod_int Try.underlying3 h1
    obtain ⟨n2, e2, _, _⟩ := DataW.trod_int Try.underlying3 h2
    obtain ⟨b, e3, _⟩ := DataW.trod_bool Try.underlying4 h3
    simp at e0 e1 e2 e3
    exact ⟨⟨n0, n1, n2, b⟩, by rw [e0, e1, e2, e3]⟩

/-- A list of extents. -/
theorem rep_of_slice {v : Value} {d : DataW H} {p : List MemPlace} (hv : ∃ a len cap, v = .slice a len cap) (h : DataW.Trod enc Try.prog W base spare held 22 v d p) :
    ∃ (n : Bool) (l : List Xt), (n = true → l = []) ∧ Rep (fun b => b < W.heap.size) W (.sl n (l.map Xt.enc)) v := by
  obtain ⟨a0, len, cap, rfl⟩ := hv
  obtain ⟨fuel, hf⟩ := h
  rcases Go.Deep.open_slice Try.underlying22 hf with ⟨hcs, _⟩ | ⟨a, len', cap', m, n, D, Pl, hcs, _, hl, _, hm, _, hx⟩
  · simp [Value.cells] at hcs
    obtain ⟨rfl, rfl, rfl⟩ := hcs
    exact ⟨true, [], fun _ => rfl, .slNil⟩
  · simp [Value.cells] at hcs
    obtain ⟨rfl, rfl, rfl⟩ := hcs
    have hc : Try.prog.cellsOf 24 = 4 := by kernel_rfl
    have hlm : len ≤ m := by rw [hm]; split <;> omega
    have he : ∀ i, i < len → ∃ e : Xt, ∀ k, k < 4 → W.cell? (a.add (i * 4 + k)) = [Value.int .i64 e.at', .int .i64 e.start, .int .i64 e.len, .bool e.un][k]? := by
      intro i hi
      obtain ⟨cs', h1, h2⟩ := hx i (by omega)
      obtain ⟨e, rfl⟩ := cells_of_ext h2
      refine ⟨e, fun k hk => ?_⟩
      rw [hc] at h1
      have := (World.cells?_some h1).2.2 k hk
      rw [Addr.add_add] at this
      exact this
    obtain ⟨f, hf⟩ : ∃ f : Nat → Xt, ∀ i, i < len → ∀ k, k < 4 → W.cell? (a.add (i * 4 + k)) = [Value.int .i64 (f i).at', .int .i64 (f i).start, .int .i64 (f i).len, .bool (f i).un][k]? := by
      refine ⟨fun i => if hi : i < len then (he i hi).choose else ⟨0, 0, 0, false⟩, fun i hi => ?_⟩
      simp only [dif_pos hi]
      exact (he i hi).choose_spec
    refine ⟨false, (List.range len).map f, (fun e => by cases e), ?_⟩
    have hlen : (((List.range len).map f).map Xt.enc).length = len := by simp
    have hget : ∀ (i : Nat) c, (((List.range len).map f).map Xt.enc)[i]? = some c → i < len ∧ c = (f i).enc := by
      intro i c hi
      have h1 : i < len := by have := (List.getElem?_eq_some_iff.1 hi).1; rw [hlen] at this; exact this
      refine ⟨h1, ?_⟩
      simp [List.getElem?_map, List.getElem?_range h1] at hi
      exact hi.symm
    have key : Rep (fun b => b < W.heap.size) W (.sl false (((List.range len).map f).map Xt.enc)) (.slice (some a) (((List.range len).map f).map Xt.enc).length cap) := by
      refine .sl _ a 4 cap (fun i k => ([Value.int .i64 (f i).at', .int .i64 (f i).start, .int .i64 (f i).len, .bool (f i).un][k]?).getD undef) ?_ (by rw [hlen]; exact hl) ?_ ?_
      · intro i c hi
        obtain ⟨_, rfl⟩ := hget i c hi
        rfl
      · intro i c hi k d hk
        obtain ⟨h1, rfl⟩ := hget i c hi
        have hk4 : k < 4 := (List.getElem?_eq_some_iff.1 hk).1
        have hcell := hf i h1 k hk4
        have hs : ([Value.int .i64 (f i).at', .int .i64 (f i).start, .int .i64 (f i).len, .bool (f i).un][k]?) = some (([Value.int .i64 (f i).at', .int .i64 (f i).start, .int .i64 (f i).len, .bool (f i).un][k]?).getD undef) := by
          rw [List.getElem?_eq_getElem (by simpa using hk4)]; rfl
        rw [hs] at hcell
        refine ⟨?_, hcell⟩
        have := World.cells?_block (w := W) (base := 0) (a := a.add (i * 4 + k)) (n := 1) (cells?_one (Nat.zero_le _) hcell) (by decide)
        rw [block_add] at this
        exact this
      · intro i c hi k d hk
        obtain ⟨h1, rfl⟩ := hget i c hi
        match k, hk with
        | 0, hk => simp [Xt.enc] at hk; subst hk; exact .val _ rfl
        | 1, hk => simp [Xt.enc] at hk; subst hk; exact .val _ rfl
        | 2, hk => simp [Xt.enc] at hk; subst hk; exact .val _ rfl
        | 3, hk => simp [Xt.enc] at hk; subst hk; exact .val _ rfl
        | k + 4, hk => simp [Xt.enc] at hk
    rw [hlen] at key
    exact key
end

/-- The walk's answer: true, and nothing that was there is written. -/
theorem blocks_call {n : Bool} {l : List Xt} {e : Xt} {q : Int} {v0 : Value} {W : World} (hn : n = true → l = []) (h0 : Rep (fun b => b < W.heap.size) W (.sl n (l.map Xt.enc)) v0) :
    Calls Try.prog 3 #[v0, .agg #[.int .i64 e.at', .int .i64 e.start, .int .i64 e.len, .bool e.un], .int .i64 q] W fun en W' => en = .returned (.bool true) ∧ Below W.heap.size W W' := by
  have hrun : sp3.run [.sc (.sl n (l.map Xt.enc)), .ag e.enc, .sc (vi q)] = some ⟨[.sc (vb true) true], none⟩ := by
    simp only [sp3, decL_enc, decX_enc]
    rw [if_pos]
    cases n
    · rfl
    · rw [hn rfl]; rfl
  have hat := law3 _ _ hrun W (fun b => b < W.heap.size) none [v0, .agg #[.int .i64 e.at', .int .i64 e.start, .int .i64 e.len, .bool e.un], .int .i64 q] (by simp [In.isMut]) ⟨fun b hb => ⟨hb, rfl⟩, fun b m hm => by simp [mbM] at hm⟩ (fun h => by cases h) rfl (fun k i v hi hv => ?_)
  · refine hat.mono fun en W' ⟨us, os, h1, h2, h3, _⟩ => ?_
    subst h1
    refine ⟨?_, ⟨h2.os, h2.tape, h2.output, h2.size, fun b hb => h2.block b hb rfl⟩⟩
    obtain ⟨hl1, hl2, _, hr⟩ := h3
    obtain ⟨u, rfl⟩ : ∃ u, us = [u] := List.length_eq_one_iff.1 hl1
    obtain ⟨o, rfl⟩ : ∃ o, os = [o] := List.length_eq_one_iff.1 hl2
    have hk := hr 0 _ u o rfl rfl rfl
    cases o with
    | some b => exact hk.elim
    | none =>
      have hk' : Rep _ W' (vb true) u := hk
      cases hk'
      rfl
  · match k, hi, hv with
    | 0, hi, hv => simp at hi hv; subst hi; subst hv; exact h0
    | 1, hi, hv =>
      simp at hi hv; subst hi; subst hv
      refine ⟨_, rfl, rfl, fun k d hk => ?_⟩
      match k, hk with
      | 0, hk => simp [Xt.enc] at hk; subst hk; exact ⟨_, rfl, .val _ rfl⟩
      | 1, hk => simp [Xt.enc] at hk; subst hk; exact ⟨_, rfl, .val _ rfl⟩
      | 2, hk => simp [Xt.enc] at hk; subst hk; exact ⟨_, rfl, .val _ rfl⟩
      | 3, hk => simp [Xt.enc] at hk; subst hk; exact ⟨_, rfl, .val _ rfl⟩
      | k + 4, hk => simp [Xt.enc] at hk
    | 2, hi, hv => simp at hi hv; subst hi; subst hv; exact .val _ rfl
    | k + 3, hi, hv => simp at hi
end Go.Dv

namespace Go.Proofs.Yteldlckmleblkaa
open Go.Dv Go.ChangeShapes Go.WideShapes Go.ChangeAt Go.RowKit
open Go

theorem blocks_own : ownKnob Try.prog.godebug = none := by kernel_rfl
theorem blocks_laid : laidOutB Try.prog = true := by kernel_rfl

set_option maxRecDepth 100000 in
theorem blocks_lifted (os : Os) (started : os.Started) (H : Type) (enc : TypeId × Value → H) :
    ReturnsInHanded {} Try.checked os 3 .any (Rows.extentBlocksSpec.pre6 enc Try.prog Try.f3 Rows.extentBlocksRow.domain false) (Rows.extentBlocksSpec.post enc Try.prog Try.f3 false true false false) := by
  refine returnsInHanded_of_change (C := Try.checked) blocks_own started (by kernel_rfl) Try.func3
    (ChangeSpec.witness6 (enc := enc) (C := Try.checked) false ⟨#[], #[.slice none 0 0, .agg #[.int .i64 0, .int .i64 0, .int .i64 0, .bool false], .int .i64 0], []⟩ 8 (by kernel_rfl) (by kernel_rfl) (by kernel_rfl) (by kernel_rfl)) ?_
  intro W base args ds gs before hval0 hW hcnd _
  have hval : ∀ (j : Nat) t v, Try.f3.params[j]? = some t → args[j]? = some v → Value.okWide Try.prog W .any base t v := hval0
  have hW' := hW
  obtain ⟨p, q, hA0, hV, rfl, hfz, hnd⟩ := hW
  have hA : DataW.TrodAll enc Try.prog W 0 (fun _ => true) true Try.f3.params.toList args.toList ds p := hA0
  rw [Try.params3] at hA hval
  obtain ⟨v0, vs0, d0, ds0, p0, q0, hargs, rfl, rfl, h0, r0⟩ := trodAll_cons hA
  obtain ⟨v1, vs1, d1, ds1, p1, q1, rfl, rfl, rfl, h1, r1⟩ := trodAll_cons r0
  obtain ⟨v2, vs2, d2, ds2, p2, q2, rfl, rfl, rfl, h2, r2⟩ := trodAll_cons r1
  obtain ⟨rfl, rfl, rfl⟩ := trodAll_nil r2
  obtain rfl : args = #[v0, v1, v2] := by cases args; simp_all
  obtain ⟨rfl, rfl⟩ := trodVars_none hV
  have k0 := h0
  have lt0 : ∀ x ∈ p0, x.block < W.heap.size := by obtain ⟨m, hm⟩ := k0; exact DataW.trod_lt m _ _ _ hm
  have k1 := h1
  have lt1 : ∀ x ∈ p1, x.block < W.heap.size := by obtain ⟨m, hm⟩ := k1; exact DataW.trod_lt m _ _ _ hm
  obtain ⟨nl, l, hn, hrep⟩ := rep_of_slice (okWide_slice Try.underlying22 (hval 0 22 v0 rfl rfl)) h0
  obtain ⟨cs, hcs, hsz⟩ := okWide_struct Try.underlying24 (hval 1 24 v1 rfl rfl)
  obtain ⟨e, he⟩ : ∃ e : Xt, v1 = .agg #[.int .i64 e.at', .int .i64 e.start, .int .i64 e.len, .bool e.un] := by
    subst hcs
    obtain ⟨fuel, hf⟩ := h1
    obtain ⟨e, he⟩ := cells_of_ext hf
    refine ⟨e, ?_⟩
    have hc : (Value.agg cs).cells = cs := by simp [Value.cells]
    rw [hc] at he
    exact congrArg Value.agg (Array.toList_inj.1 (he.trans rfl))
  obtain ⟨x, rfl, rfl, rfl, wx⟩ := open_int Try.underlying3 (hval 2 3 v2 rfl rfl) h2
  clear hA0 hval0
  subst he
  refine (blocks_call (q := x) hn hrep).mono fun en W' ⟨he, bel⟩ => ?_
  subst he
  exact ⟨_, rfl, _, _, _, [], _, [], hW', trodAll_mk1 (shut_bool Try.underlying4 _), (trodAll_cons_mk (Below.trod blocks_laid (by kernel_rfl) (of_decide_eq_true (by kernel_rfl)) k0 bel lt0) (trodAll_cons_mk (Below.trod blocks_laid (by kernel_rfl) (of_decide_eq_true (by kernel_rfl)) k1 bel lt1) (trodAll_cons_mk (shut_int Try.underlying3 wx) trodAll_mk0))), rfl, bel.frame _, fun h => by cases h⟩

/-- ExtentBlocks answers true for every input. -/
theorem extentBlocks_holds : Rows.ExtentBlocksSaid :=
  OpenClaim.holds_of_wide 3 Try.f3 rfl rfl rfl rfl rfl rfl rfl ⟨rfl, rfl, rfl, rfl, rfl⟩ rfl rfl rfl rfl rfl (by kernel_rfl) Try.func3 (by kernel_rfl)
    (of_decide_eq_true (by kernel_rfl)) (by unfold Func.isWrapper; first | (rw [if_pos (by decide +kernel)]; kernel_rfl) | (rw [if_neg (by decide +kernel)]; exact ⟨rfl, rfl⟩))
    (fun os started H enc _ => blocks_lifted os started H enc)
end Go.Proofs.Yteldlckmleblkaa
