/-
  DERIVED, MY OWN. A part of the proof of ExtentBlocks: see the last text (Row).
-/
import Derived.Test.YteldlckmleblkaaWkA
import Derived.Test.YteldlckmleblkaaXt
import Derived.Test.YteldlckmleblkaaDvC
set_option linter.all false
/-
  DERIVED, MY OWN. THE WALK OF slices.Insert, given a row.
-/



set_option autoImplicit false
set_option maxRecDepth 20000
set_option linter.unusedSimpArgs false
set_option linter.unusedVariables false
namespace Go.Dv
open Go Go.RowKit Go.Proofs

def D27 : Dep := fun
  | 11 => (8, [[], [], [], [1, 2], [0, 1, 2, 3], [], [], [5, 6], [0, 1, 2, 3, 4, 5, 6, 7]])
  | 15 => (8, [[], [], [], [1, 2], [0, 1, 2, 3], [], [], [5, 6], [0, 1, 2, 3, 4, 5, 6, 7]])
  | _ => (0, [])
def E27 : Big := ⟨fun f => if f = 53 then some trOv else none, none, fun _ => none⟩
theorem ov53 : ExOk Try.prog 53 trOv := overlaps_ok (tS := 22) (tR := 4) (e := 24) Try.func53 (by kernel_rfl) (by kernel_rfl) (by kernel_rfl) (by kernel_rfl) un22 in24
theorem E27_ok : GBig Try.prog E27 := by
  intro A0 M w0
  constructor
  · intro f tr h
    simp only [E27] at h
    split at h
    · rename_i e
      subst e
      obtain rfl := Option.some.inj h
      exact .inr ov53
    · cases h
  · intro tr h; simp [E27] at h
  · intro f itr h; simp [E27] at h
noncomputable def b27 : Code := Try.f27.body.getD .skip
theorem hb27 : Try.f27.body = some b27 := rfl
theorem E27_53 : E27.fn 53 = some trOv := rfl

set_option maxHeartbeats 2000000 in
theorem ins_walk {T : Tbl} {σ : St} {s0 sv s g0 gv : Nat} {fr frv av mv fi : Bool} {l : List Xt} {e : Xt} {i : Nat} {K : AV → St → Prop} (hi : i ≤ l.length) (hl : l.length ≤ 1000) (h1 : s0 < 1000) (h2 : sv < 1000) (h3 : s0 ≠ sv)
    (ho : σ.own s0 = some (.row 24 4 g0 true false fr (l.map Xt.enc))) (hv : σ.own sv = some (.row 24 4 gv av mv frv [e.enc])) (hT53 : T 53 = none)
    (hK : ∀ c fr' σ', σ'.env = σ.env → σ.ctr ≤ σ'.ctr → σ'.own s = some (.row 24 4 c true false fr' ((insL l i e).map Xt.enc)) → (∀ x, x < 1000 → x ≠ s → x ≠ s0 → σ'.own x = σ.own x) → K (.rs s c 0 (l.length + 1)) σ') :
    trFill Try.prog T E27 D27 Try.f27 b27 1000 s 0 [.rs s0 g0 0 l.length, .d (vi i) fi, .rs sv gv 0 1] K σ := by
  have hml : (l.map Xt.enc).length = l.length := List.length_map _
  refine ⟨s0, g0, 24, 4, fr, l.map Xt.enc, [.d (vi i) fi, .rs sv gv 0 1], by rw [hml], ho, by simp [Try.ntmps27], fun spare hsp => ?_⟩
  rw [hml]
  show WP _ _ _ _ _ _ _ (Code.seq _ _) _ _
  have e1 : ¬ s0 = 1040 := by omega
  have e1' : ¬ 1040 = s0 := by omega
  have e2 : ¬ sv = 1040 := by omega
  have e2' : ¬ 1040 = sv := by omega
  have e3 : ¬ s0 = sv := h3
  have e3' : ¬ sv = s0 := fun h => h3 h.symm
  have e4 : ¬ s0 = 1025 := by omega
  have e4' : ¬ 1025 = s0 := by omega
  have e5 : ¬ sv = 1025 := by omega
  have e5' : ¬ 1025 = sv := by omega
  have hs0 : ¬ 1000 ≤ s0 := by omega
  have hsv : ¬ 1000 ≤ sv := by omega
  have hiI : (i : Int) ≤ (l.length : Int) := by omega
  have hcI : (l.length : Int) ≤ (l.length : Int) + (spare.length : Int) := by omega
  have hcJ : (i : Int) ≤ (l.length : Int) + (spare.length : Int) := by omega
  have hcK : i ≤ l.length + spare.length := by omega
  have hb1 : l.length ≤ 140737488355327 := by omega
  have hb2 : (l.length + 1) * 32 ≤ 140737488355328 := by omega
  have hw1 : IntKind.i64.wrap ((l.length : Int) + 1) = (l.length : Int) + 1 := w64_in (by omega) (by omega)
  have hw2 : IntKind.i64.wrap ((i : Int) + 1) = (i : Int) + 1 := w64_in (by omega) (by omega)
  have hw3 : IntKind.i64.wrap ((l.length : Int) + 1 - (i : Int)) = (l.length : Int) + 1 - (i : Int) := w64_in (by omega) (by omega)
  by_cases hil : i = l.length
  · subst hil
    by_cases hcap : 1 ≤ spare.length
    · have hc1 : l.length + 1 ≤ l.length + spare.length := by omega
      repeat' (first
 | (intro h; first | (exfalso; exact Bool.noConfusion h) | (simp only [decide_eq_true_eq, decide_eq_false_iff_not] at h) | skip)
 | (apply evOps_fin; (case hf => (simp only [finGo, app1]; rfl)); skip)
 | refine WP_seq ?_
 | refine WP_scope ?_
 | refine WP_block ?_
 | refine WP_ret ?_
 | refine WP_skip ?_
 | refine WP_exit ?_
 | (apply WP_region; (case hl => rfl); (case hc => (simp only [put_env', put_own', put_ctr', put_none', setOwn_env', setOwn_own', setOwn_ctr', setCtr_env', setCtr_own', setCtr_ctr', entry, entryEnv, entryOwn, inAV, scAV, inOB]; rfl)); (case hc' => (conv => lhs; simp only [List.size_toArray, List.length_cons, List.length_nil, Nat.zero_add, Nat.reduceAdd, Nat.add_assoc])); skip)
 | (apply WP_draw; (case hl => rfl); (case hds => (simp only [List.map_cons, List.map_nil]; rfl)); (case hc => (simp only [put_env', put_own', put_ctr', put_none', setOwn_env', setOwn_own', setOwn_ctr', setCtr_env', setCtr_own', setCtr_ctr', entry, entryEnv, entryOwn, inAV, scAV, inOB]; rfl)); (case hc' => (conv => lhs; simp only [List.size_toArray, List.length_cons, List.length_nil, Nat.zero_add, Nat.reduceAdd, Nat.add_assoc])); (case hD => rfl); (case hb => kernel_rfl); (case h1 => (simp only [List.take_succ_cons, List.take_zero]; rfl)); (case h2 => (simp only [List.drop_succ_cons, List.drop_zero]; rfl)); (case h3 => (simp only [List.take_succ_cons, List.take_zero]; rfl)); intro had; skip)
 | refine evOps_nil ?_
 | refine evQ_nil ?_
 | (apply evQ_one; (case had => assumption); (case hg => rfl); (case hd => (simp [dstB]; done)); (case h => (simp [evQuiet, evCallQ, known, njk, AV.isJunk, Op.operands, Call.operands, evEff, evStep, evPure, ho, hv, e1, e1', e2, e2', e3, e3', hiI, hcI, hw1, envOf, hs0, hsv, hc1, hcap]; with_reducible rfl)); (case hs => (simp; done)); (case hR => (simp only [List.nil_append, List.cons_append]; rfl)); skip)
 | (apply evQ_yes; (case had => assumption); (case hg => rfl); (case hb => (simp [gval, evEff, dstB, ho, hv, e1, e1', e2, e2', e3, e3', hiI, hcI, hw1, envOf, hs0, hsv, hc1, hcap]; done)); (case hd => (simp [dstB]; done)); (case h => (simp [evQuiet, evCallQ, known, njk, AV.isJunk, Op.operands, Call.operands, evEff, evStep, evPure, ho, hv, e1, e1', e2, e2', e3, e3', hiI, hcI, hw1, envOf, hs0, hsv, hc1, hcap]; with_reducible rfl)); (case hs => (simp; done)); (case hR => (simp only [List.nil_append, List.cons_append]; rfl)); skip)
 | (apply evQ_no; (case had => assumption); (case hg => rfl); (case hb => (simp [gval, evEff, dstB, ho, hv, e1, e1', e2, e2', e3, e3', hiI, hcI, hw1, envOf, hs0, hsv, hc1, hcap]; with_reducible rfl)); (case hne => (simp; done)); (case hd => (simp [dstB]; done)); (case hR => (simp only [List.nil_append, List.cons_append]; rfl)); skip)
 | (apply evQ_split; (case hg => rfl); (case hb => (simp only [List.getElem?_cons_succ, List.getElem?_cons_zero]; rfl)); (case hv => ((fail_if_success (with_reducible exact (rfl : (_ : QR) = (AV.d (.val (.bool true)) _, none)))); (fail_if_success (with_reducible exact (rfl : (_ : QR) = (AV.d (.val (.bool false)) _, none)))); rfl)); (case hT => (simp only [List.set_cons_succ, List.set_cons_zero]; rfl)); (case hF => (simp only [List.set_cons_succ, List.set_cons_zero]; rfl)); skip)
 | (apply evOps_one; (case hg => rfl); (case h => (simp [evStep, evPure, ho, hv, e1, e1', e2, e2', e3, e3', hiI, hcI, hw1, envOf, hs0, hsv, hc1, hcap]; with_reducible rfl)); skip)
 | (apply evOps_yes; (case hg => rfl); (case hb => (simp [gval, dstB, ho, hv, e1, e1', e2, e2', e3, e3', hiI, hcI, hw1, envOf, hs0, hsv, hc1, hcap]; done)); (case h => (simp [evStep, evPure, ho, hv, e1, e1', e2, e2', e3, e3', hiI, hcI, hw1, envOf, hs0, hsv, hc1, hcap]; with_reducible rfl)); skip)
 | (apply evOps_no; (case hg => rfl); (case hb => (simp [gval, dstB, ho, hv, e1, e1', e2, e2', e3, e3', hiI, hcI, hw1, envOf, hs0, hsv, hc1, hcap]; with_reducible rfl)); (case hne => (simp; done)); (case hd => (simp [dstB]; done)); skip)
 | (apply evOps_big; (case hg => rfl); (case hd => (simp [dstB]; done)); (case hb => (simp [evBig, evStep, evPure, ho, hv, e1, e1', e2, e2', e3, e3', hiI, hcI, hw1, envOf, hs0, hsv, hc1, hcap]; with_reducible rfl)); skip)
 | (apply evOps_bigYes; (case hg => rfl); (case hgv => (simp [gval, dstB, ho, hv, e1, e1', e2, e2', e3, e3', hiI, hcI, hw1, envOf, hs0, hsv, hc1, hcap]; done)); (case hd => (simp [dstB]; done)); (case hb => (simp [evBig, evStep, evPure, ho, hv, e1, e1', e2, e2', e3, e3', hiI, hcI, hw1, envOf, hs0, hsv, hc1, hcap]; with_reducible rfl)); skip)
 | (apply evOps_split; (case _hg => rfl); (case _ht => rfl); (case hb => (simp [dstB]; with_reducible rfl)); (case hv => ((fail_if_success (with_reducible exact (rfl : (_ : AV) = AV.d (.val (.bool true)) _))); (fail_if_success (with_reducible exact (rfl : (_ : AV) = AV.d (.val (.bool false)) _))); rfl)); skip)
 | (apply WP_cond; (case hx => (simp [St.eval, dstB, ho, hv, e1, e1', e2, e2', e3, e3', hiI, hcI, hw1, envOf, hs0, hsv, hc1, hcap]; with_reducible rfl)); (case hv => rfl); skip))
      simp only []
      refine ⟨_, (by simp [resVals, Try.results27, dstB]; with_reducible rfl), _, _, _, rfl, moveAV_of rfl (by simp [dstB, e1, e1', e2, e2', e3, e3']; exact ⟨rfl, rfl, rfl, rfl⟩) ?hl, ?hk⟩
      case hl => simp
      case hk =>
        refine hK _ (fr && frv) _ rfl ?_ ?_ ?_
        · simp [dstB, envOf]; try omega
        · simp only [put_env', put_own', put_ctr', put_none', setOwn_env', setOwn_own', setOwn_ctr', setCtr_env', setCtr_own', setCtr_ctr', entry, entryEnv, entryOwn, inAV, scAV, inOB, if_true]
          refine congrArg (fun z => some (OB.row 24 4 _ true false _ z)) ?_
          rw [insL_map]
          exact insL_1 hml
        · intro x hx hx1 hx2
          have q1 : ¬ x = 1025 := by omega
          have q2 : ¬ x = 1040 := by omega
          simp [dstB, envOf, hx1, hx2, q1, q2]
    · have hc1 : ¬ l.length + 1 ≤ l.length + spare.length := by omega
      repeat' (first
 | (intro h; first | (exfalso; exact Bool.noConfusion h) | (simp only [decide_eq_true_eq, decide_eq_false_iff_not] at h) | skip)
 | (apply evOps_fin; (case hf => (simp only [finGo, app1]; rfl)); skip)
 | refine WP_seq ?_
 | refine WP_scope ?_
 | refine WP_block ?_
 | refine WP_ret ?_
 | refine WP_skip ?_
 | refine WP_exit ?_
 | (apply WP_region; (case hl => rfl); (case hc => (simp only [put_env', put_own', put_ctr', put_none', setOwn_env', setOwn_own', setOwn_ctr', setCtr_env', setCtr_own', setCtr_ctr', entry, entryEnv, entryOwn, inAV, scAV, inOB]; rfl)); (case hc' => (conv => lhs; simp only [List.size_toArray, List.length_cons, List.length_nil, Nat.zero_add, Nat.reduceAdd, Nat.add_assoc])); skip)
 | (apply WP_draw; (case hl => rfl); (case hds => (simp only [List.map_cons, List.map_nil]; rfl)); (case hc => (simp only [put_env', put_own', put_ctr', put_none', setOwn_env', setOwn_own', setOwn_ctr', setCtr_env', setCtr_own', setCtr_ctr', entry, entryEnv, entryOwn, inAV, scAV, inOB]; rfl)); (case hc' => (conv => lhs; simp only [List.size_toArray, List.length_cons, List.length_nil, Nat.zero_add, Nat.reduceAdd, Nat.add_assoc])); (case hD => rfl); (case hb => kernel_rfl); (case h1 => (simp only [List.take_succ_cons, List.take_zero]; rfl)); (case h2 => (simp only [List.drop_succ_cons, List.drop_zero]; rfl)); (case h3 => (simp only [List.take_succ_cons, List.take_zero]; rfl)); intro had; skip)
 | refine evOps_nil ?_
 | refine evQ_nil ?_
 | (apply evQ_one; (case had => assumption); (case hg => rfl); (case hd => (simp [dstB]; done)); (case h => (simp [evQuiet, evCallQ, known, njk, AV.isJunk, Op.operands, Call.operands, evEff, evStep, evPure, ho, hv, e1, e1', e2, e2', e3, e3', e4, e4', e5, e5', hiI, hcI, hw1, envOf, hs0, hsv, hc1, hcap, hb1, hb2]; with_reducible rfl)); (case hs => (simp; done)); (case hR => (simp only [List.nil_append, List.cons_append]; rfl)); skip)
 | (apply evQ_yes; (case had => assumption); (case hg => rfl); (case hb => (simp [gval, evEff, dstB, ho, hv, e1, e1', e2, e2', e3, e3', e4, e4', e5, e5', hiI, hcI, hw1, envOf, hs0, hsv, hc1, hcap, hb1, hb2]; done)); (case hd => (simp [dstB]; done)); (case h => (simp [evQuiet, evCallQ, known, njk, AV.isJunk, Op.operands, Call.operands, evEff, evStep, evPure, ho, hv, e1, e1', e2, e2', e3, e3', e4, e4', e5, e5', hiI, hcI, hw1, envOf, hs0, hsv, hc1, hcap, hb1, hb2]; with_reducible rfl)); (case hs => (simp; done)); (case hR => (simp only [List.nil_append, List.cons_append]; rfl)); skip)
 | (apply evQ_no; (case had => assumption); (case hg => rfl); (case hb => (simp [gval, evEff, dstB, ho, hv, e1, e1', e2, e2', e3, e3', e4, e4', e5, e5', hiI, hcI, hw1, envOf, hs0, hsv, hc1, hcap, hb1, hb2]; with_reducible rfl)); (case hne => (simp; done)); (case hd => (simp [dstB]; done)); (case hR => (simp only [List.nil_append, List.cons_append]; rfl)); skip)
 | (apply evQ_split; (case hg => rfl); (case hb => (simp only [List.getElem?_cons_succ, List.getElem?_cons_zero]; rfl)); (case hv => ((fail_if_success (with_reducible exact (rfl : (_ : QR) = (AV.d (.val (.bool true)) _, none)))); (fail_if_success (with_reducible exact (rfl : (_ : QR) = (AV.d (.val (.bool false)) _, none)))); rfl)); (case hT => (simp only [List.set_cons_succ, List.set_cons_zero]; rfl)); (case hF => (simp only [List.set_cons_succ, List.set_cons_zero]; rfl)); skip)
 | (apply evOps_one; (case hg => rfl); (case h => (simp [evStep, evPure, ho, hv, e1, e1', e2, e2', e3, e3', e4, e4', e5, e5', hiI, hcI, hw1, envOf, hs0, hsv, hc1, hcap, hb1, hb2]; with_reducible rfl)); skip)
 | (apply evOps_yes; (case hg => rfl); (case hb => (simp [gval, dstB, ho, hv, e1, e1', e2, e2', e3, e3', e4, e4', e5, e5', hiI, hcI, hw1, envOf, hs0, hsv, hc1, hcap, hb1, hb2]; done)); (case h => (simp [evStep, evPure, ho, hv, e1, e1', e2, e2', e3, e3', e4, e4', e5, e5', hiI, hcI, hw1, envOf, hs0, hsv, hc1, hcap, hb1, hb2]; with_reducible rfl)); skip)
 | (apply evOps_no; (case hg => rfl); (case hb => (simp [gval, dstB, ho, hv, e1, e1', e2, e2', e3, e3', e4, e4', e5, e5', hiI, hcI, hw1, envOf, hs0, hsv, hc1, hcap, hb1, hb2]; with_reducible rfl)); (case hne => (simp; done)); (case hd => (simp [dstB]; done)); skip)
 | (apply evOps_big; (case hg => rfl); (case hd => (simp [dstB]; done)); (case hb => (simp [evBig, evStep, evPure, ho, hv, e1, e1', e2, e2', e3, e3', e4, e4', e5, e5', hiI, hcI, hw1, envOf, hs0, hsv, hc1, hcap, hb1, hb2]; with_reducible rfl)); skip)
 | (apply evOps_bigYes; (case hg => rfl); (case hgv => (simp [gval, dstB, ho, hv, e1, e1', e2, e2', e3, e3', e4, e4', e5, e5', hiI, hcI, hw1, envOf, hs0, hsv, hc1, hcap, hb1, hb2]; done)); (case hd => (simp [dstB]; done)); (case hb => (simp [evBig, evStep, evPure, ho, hv, e1, e1', e2, e2', e3, e3', e4, e4', e5, e5', hiI, hcI, hw1, envOf, hs0, hsv, hc1, hcap, hb1, hb2]; with_reducible rfl)); skip)
 | (apply evOps_split; (case _hg => rfl); (case _ht => rfl); (case hb => (simp [dstB]; with_reducible rfl)); (case hv => ((fail_if_success (with_reducible exact (rfl : (_ : AV) = AV.d (.val (.bool true)) _))); (fail_if_success (with_reducible exact (rfl : (_ : AV) = AV.d (.val (.bool false)) _))); rfl)); skip)
 | (apply WP_cond; (case hx => (simp [St.eval, dstB, ho, hv, e1, e1', e2, e2', e3, e3', e4, e4', e5, e5', hiI, hcI, hw1, envOf, hs0, hsv, hc1, hcap, hb1, hb2]; with_reducible rfl)); (case hv => rfl); skip))
      simp only []
      refine ⟨_, (by simp [resVals, Try.results27, dstB]; with_reducible rfl), _, _, _, rfl, moveAV_of rfl (by simp [dstB, e1, e1', e2, e2', e3, e3', e4, e4', e5, e5']; exact ⟨rfl, rfl, rfl, rfl⟩) ?hl, ?hk⟩
      case hl => simp
      case hk =>
        refine hK _ (fr && frv) _ rfl ?_ ?_ ?_
        · simp [dstB, envOf]; try omega
        · simp only [put_env', put_own', put_ctr', put_none', setOwn_env', setOwn_own', setOwn_ctr', setCtr_env', setCtr_own', setCtr_ctr', entry, entryEnv, entryOwn, inAV, scAV, inOB, if_true]
          refine congrArg (fun z => some (OB.row 24 4 _ true false _ z)) ?_
          rw [insL_map]
          exact insL_2 hml
        · intro x hx hx1 hx2
          have q1 : ¬ x = 1025 := by omega
          have q2 : ¬ x = 1040 := by omega
          simp [dstB, envOf, hx1, hx2, q1, q2]
  · have hil' : i < l.length := by omega
    have hilI : ¬ (i : Int) = (l.length : Int) := by omega
    have hs1 : i + (l.length + 1 - i) = l.length + 1 := by omega
    have hs1I : (i : Int) ≤ (l.length : Int) + 1 := by omega
    have hs2 : i + 1 + (l.length - i) = l.length + 1 := by omega
    have hs3 : i + (l.length - i) = l.length := by omega
    have hs4 : i + (l.length - i + 1) = l.length + 1 := by omega
    have hq0 : (0 : Int) ≤ (l.length : Int) + 1 := by omega
    have hq1 : (0 : Int) ≤ (i : Int) + 1 := by omega
    by_cases hcap : 1 ≤ spare.length
    · have hc1 : l.length + 1 ≤ l.length + spare.length := by omega
      have hmn1 : min (l.length + 1 - i) (l.length + spare.length - i) = l.length + 1 - i := by omega
      have hmn2 : min (l.length + 1 - i) (l.length - i) = l.length - i := by omega
      have hmn3 : min (i + 1) (l.length + spare.length) = i + 1 := by omega
      have hmn4 : min (l.length - i) (l.length + 1 - i) = l.length - i := by omega
      have hmn5 : min 1 (l.length + 1 - i) = 1 := by omega
      have hmn6 : l.length + 1 ≤ i + 1 + (l.length - i + (l.length + spare.length - (l.length + 1))) := by omega
      have hcapI : ¬ (spare.length : Int) < 1 := by omega
      have hcapJ : (1 : Int) ≤ (spare.length : Int) := by omega
      repeat' (first
 | (intro h; first | (exfalso; exact Bool.noConfusion h) | (simp only [decide_eq_true_eq, decide_eq_false_iff_not] at h) | skip)
 | (apply evOps_fin; (case hf => (simp only [finGo, app1]; rfl)); skip)
 | refine WP_seq ?_
 | refine WP_scope ?_
 | refine WP_block ?_
 | refine WP_ret ?_
 | refine WP_skip ?_
 | refine WP_exit ?_
 | (apply WP_region; (case hl => rfl); (case hc => (simp only [put_env', put_own', put_ctr', put_none', setOwn_env', setOwn_own', setOwn_ctr', setCtr_env', setCtr_own', setCtr_ctr', entry, entryEnv, entryOwn, inAV, scAV, inOB]; rfl)); (case hc' => (conv => lhs; simp only [List.size_toArray, List.length_cons, List.length_nil, Nat.zero_add, Nat.reduceAdd, Nat.add_assoc])); skip)
 | (apply WP_draw; (case hl => rfl); (case hds => (simp only [List.map_cons, List.map_nil]; rfl)); (case hc => (simp only [put_env', put_own', put_ctr', put_none', setOwn_env', setOwn_own', setOwn_ctr', setCtr_env', setCtr_own', setCtr_ctr', entry, entryEnv, entryOwn, inAV, scAV, inOB]; rfl)); (case hc' => (conv => lhs; simp only [List.size_toArray, List.length_cons, List.length_nil, Nat.zero_add, Nat.reduceAdd, Nat.add_assoc])); (case hD => rfl); (case hb => kernel_rfl); (case h1 => (simp only [List.take_succ_cons, List.take_zero]; rfl)); (case h2 => (simp only [List.drop_succ_cons, List.drop_zero]; rfl)); (case h3 => (simp only [List.take_succ_cons, List.take_zero]; rfl)); intro had; skip)
 | refine evOps_nil ?_
 | refine evQ_nil ?_
 | (apply evQ_one; (case had => assumption); (case hg => rfl); (case hd => (simp [dstB]; done)); (case h => (simp [evQuiet, evCallQ, known, njk, AV.isJunk, Op.operands, Call.operands, evEff, evStep, evPure, ho, hv, e1, e1', e2, e2', e3, e3', hiI, hcI, hw1, hw2, envOf, hs0, hsv, hc1, hcap, hilI, hil', hcJ, hcK, hcapI, hcapJ, hq0, hq1, hs1I, hs1, hs2, hs3, hs4, hmn1, hmn2, hmn3, hmn4, hmn5, hmn6, hT53, E27_53]; with_reducible rfl)); (case hs => (simp; done)); (case hR => (simp only [List.nil_append, List.cons_append]; rfl)); skip)
 | (apply evQ_yes; (case had => assumption); (case hg => rfl); (case hb => (simp [gval, evEff, dstB, ho, hv, e1, e1', e2, e2', e3, e3', hiI, hcI, hw1, hw2, envOf, hs0, hsv, hc1, hcap, hilI, hil', hcJ, hcK, hcapI, hcapJ, hq0, hq1, hs1I, hs1, hs2, hs3, hs4, hmn1, hmn2, hmn3, hmn4, hmn5, hmn6, hT53, E27_53]; done)); (case hd => (simp [dstB]; done)); (case h => (simp [evQuiet, evCallQ, known, njk, AV.isJunk, Op.operands, Call.operands, evEff, evStep, evPure, ho, hv, e1, e1', e2, e2', e3, e3', hiI, hcI, hw1, hw2, envOf, hs0, hsv, hc1, hcap, hilI, hil', hcJ, hcK, hcapI, hcapJ, hq0, hq1, hs1I, hs1, hs2, hs3, hs4, hmn1, hmn2, hmn3, hmn4, hmn5, hmn6, hT53, E27_53]; with_reducible rfl)); (case hs => (simp; done)); (case hR => (simp only [List.nil_append, List.cons_append]; rfl)); skip)
 | (apply evQ_no; (case had => assumption); (case hg => rfl); (case hb => (simp [gval, evEff, dstB, ho, hv, e1, e1', e2, e2', e3, e3', hiI, hcI, hw1, hw2, envOf, hs0, hsv, hc1, hcap, hilI, hil', hcJ, hcK, hcapI, hcapJ, hq0, hq1, hs1I, hs1, hs2, hs3, hs4, hmn1, hmn2, hmn3, hmn4, hmn5, hmn6, hT53, E27_53]; with_reducible rfl)); (case hne => (simp; done)); (case hd => (simp [dstB]; done)); (case hR => (simp only [List.nil_append, List.cons_append]; rfl)); skip)
 | (apply evQ_split; (case hg => rfl); (case hb => (simp only [List.getElem?_cons_succ, List.getElem?_cons_zero]; rfl)); (case hv => ((fail_if_success (with_reducible exact (rfl : (_ : QR) = (AV.d (.val (.bool true)) _, none)))); (fail_if_success (with_reducible exact (rfl : (_ : QR) = (AV.d (.val (.bool false)) _, none)))); rfl)); (case hT => (simp only [List.set_cons_succ, List.set_cons_zero]; rfl)); (case hF => (simp only [List.set_cons_succ, List.set_cons_zero]; rfl)); skip)
 | (apply evOps_one; (case hg => rfl); (case h => (simp [evStep, evPure, ho, hv, e1, e1', e2, e2', e3, e3', hiI, hcI, hw1, hw2, envOf, hs0, hsv, hc1, hcap, hilI, hil', hcJ, hcK, hcapI, hcapJ, hq0, hq1, hs1I, hs1, hs2, hs3, hs4, hmn1, hmn2, hmn3, hmn4, hmn5, hmn6, hT53, E27_53]; with_reducible rfl)); skip)
 | (apply evOps_yes; (case hg => rfl); (case hb => (simp [gval, dstB, ho, hv, e1, e1', e2, e2', e3, e3', hiI, hcI, hw1, hw2, envOf, hs0, hsv, hc1, hcap, hilI, hil', hcJ, hcK, hcapI, hcapJ, hq0, hq1, hs1I, hs1, hs2, hs3, hs4, hmn1, hmn2, hmn3, hmn4, hmn5, hmn6, hT53, E27_53]; done)); (case h => (simp [evStep, evPure, ho, hv, e1, e1', e2, e2', e3, e3', hiI, hcI, hw1, hw2, envOf, hs0, hsv, hc1, hcap, hilI, hil', hcJ, hcK, hcapI, hcapJ, hq0, hq1, hs1I, hs1, hs2, hs3, hs4, hmn1, hmn2, hmn3, hmn4, hmn5, hmn6, hT53, E27_53]; with_reducible rfl)); skip)
 | (apply evOps_no; (case hg => rfl); (case hb => (simp [gval, dstB, ho, hv, e1, e1', e2, e2', e3, e3', hiI, hcI, hw1, hw2, envOf, hs0, hsv, hc1, hcap, hilI, hil', hcJ, hcK, hcapI, hcapJ, hq0, hq1, hs1I, hs1, hs2, hs3, hs4, hmn1, hmn2, hmn3, hmn4, hmn5, hmn6, hT53, E27_53]; with_reducible rfl)); (case hne => (simp; done)); (case hd => (simp [dstB]; done)); skip)
 | (apply evOps_big; (case hg => rfl); (case hd => (simp [dstB]; done)); (case hb => (simp [evBig, evStep, evPure, ho, hv, e1, e1', e2, e2', e3, e3', hiI, hcI, hw1, hw2, envOf, hs0, hsv, hc1, hcap, hilI, hil', hcJ, hcK, hcapI, hcapJ, hq0, hq1, hs1I, hs1, hs2, hs3, hs4, hmn1, hmn2, hmn3, hmn4, hmn5, hmn6, hT53, E27_53]; with_reducible rfl)); skip)
 | (apply evOps_bigYes; (case hg => rfl); (case hgv => (simp [gval, dstB, ho, hv, e1, e1', e2, e2', e3, e3', hiI, hcI, hw1, hw2, envOf, hs0, hsv, hc1, hcap, hilI, hil', hcJ, hcK, hcapI, hcapJ, hq0, hq1, hs1I, hs1, hs2, hs3, hs4, hmn1, hmn2, hmn3, hmn4, hmn5, hmn6, hT53, E27_53]; done)); (case hd => (simp [dstB]; done)); (case hb => (simp [evBig, evStep, evPure, ho, hv, e1, e1', e2, e2', e3, e3', hiI, hcI, hw1, hw2, envOf, hs0, hsv, hc1, hcap, hilI, hil', hcJ, hcK, hcapI, hcapJ, hq0, hq1, hs1I, hs1, hs2, hs3, hs4, hmn1, hmn2, hmn3, hmn4, hmn5, hmn6, hT53, E27_53]; with_reducible rfl)); skip)
 | (apply evOps_split; (case _hg => rfl); (case _ht => rfl); (case hb => (simp [dstB]; with_reducible rfl)); (case hv => ((fail_if_success (with_reducible exact (rfl : (_ : AV) = AV.d (.val (.bool true)) _))); (fail_if_success (with_reducible exact (rfl : (_ : AV) = AV.d (.val (.bool false)) _))); rfl)); skip)
 | (apply WP_cond; (case hx => (simp [St.eval, dstB, ho, hv, e1, e1', e2, e2', e3, e3', hiI, hcI, hw1, hw2, envOf, hs0, hsv, hc1, hcap, hilI, hil', hcJ, hcK, hcapI, hcapJ, hq0, hq1, hs1I, hs1, hs2, hs3, hs4, hmn1, hmn2, hmn3, hmn4, hmn5, hmn6, hT53, E27_53]; with_reducible rfl)); (case hv => rfl); skip))
      refine ⟨sv, gv, 0, 1, s0, g0, i + 1, l.length - i, 24, 4, av, mv, frv, [e.enc], 24, 4, true, false, fr, l.map Xt.enc ++ spare, rfl, e3', ?_, ?_, by decide, ?_⟩
      · simp [dstB, e1, e1', e2, e2', e3, e3', hv]
      · simp [dstB, e1, e1', e2, e2', e3, e3', hv]
      repeat' (first
 | (intro h; first | (exfalso; exact Bool.noConfusion h) | (simp only [decide_eq_true_eq, decide_eq_false_iff_not] at h) | skip)
 | (apply evOps_fin; (case hf => (simp only [finGo, app1]; rfl)); skip)
 | refine WP_seq ?_
 | refine WP_scope ?_
 | refine WP_block ?_
 | refine WP_ret ?_
 | refine WP_skip ?_
 | refine WP_exit ?_
 | (apply WP_region; (case hl => rfl); (case hc => (simp only [put_env', put_own', put_ctr', put_none', setOwn_env', setOwn_own', setOwn_ctr', setCtr_env', setCtr_own', setCtr_ctr', entry, entryEnv, entryOwn, inAV, scAV, inOB]; rfl)); (case hc' => (conv => lhs; simp only [List.size_toArray, List.length_cons, List.length_nil, Nat.zero_add, Nat.reduceAdd, Nat.add_assoc])); skip)
 | (apply WP_draw; (case hl => rfl); (case hds => (simp only [List.map_cons, List.map_nil]; rfl)); (case hc => (simp only [put_env', put_own', put_ctr', put_none', setOwn_env', setOwn_own', setOwn_ctr', setCtr_env', setCtr_own', setCtr_ctr', entry, entryEnv, entryOwn, inAV, scAV, inOB]; rfl)); (case hc' => (conv => lhs; simp only [List.size_toArray, List.length_cons, List.length_nil, Nat.zero_add, Nat.reduceAdd, Nat.add_assoc])); (case hD => rfl); (case hb => kernel_rfl); (case h1 => (simp only [List.take_succ_cons, List.take_zero]; rfl)); (case h2 => (simp only [List.drop_succ_cons, List.drop_zero]; rfl)); (case h3 => (simp only [List.take_succ_cons, List.take_zero]; rfl)); intro had; skip)
 | refine evOps_nil ?_
 | refine evQ_nil ?_
 | (apply evQ_one; (case had => assumption); (case hg => rfl); (case hd => (simp [dstB]; done)); (case h => (simp [evQuiet, evCallQ, known, njk, AV.isJunk, Op.operands, Call.operands, evEff, evStep, evPure, ho, hv, e1, e1', e2, e2', e3, e3', hiI, hcI, hw1, hw2, envOf, hs0, hsv, hc1, hcap, hilI, hil', hcJ, hcK, hcapI, hcapJ, hq0, hq1, hs1I, hs1, hs2, hs3, hs4, hmn1, hmn2, hmn3, hmn4, hmn5, hmn6, hT53, E27_53]; with_reducible rfl)); (case hs => (simp; done)); (case hR => (simp only [List.nil_append, List.cons_append]; rfl)); skip)
 | (apply evQ_yes; (case had => assumption); (case hg => rfl); (case hb => (simp [gval, evEff, dstB, ho, hv, e1, e1', e2, e2', e3, e3', hiI, hcI, hw1, hw2, envOf, hs0, hsv, hc1, hcap, hilI, hil', hcJ, hcK, hcapI, hcapJ, hq0, hq1, hs1I, hs1, hs2, hs3, hs4, hmn1, hmn2, hmn3, hmn4, hmn5, hmn6, hT53, E27_53]; done)); (case hd => (simp [dstB]; done)); (case h => (simp [evQuiet, evCallQ, known, njk, AV.isJunk, Op.operands, Call.operands, evEff, evStep, evPure, ho, hv, e1, e1', e2, e2', e3, e3', hiI, hcI, hw1, hw2, envOf, hs0, hsv, hc1, hcap, hilI, hil', hcJ, hcK, hcapI, hcapJ, hq0, hq1, hs1I, hs1, hs2, hs3, hs4, hmn1, hmn2, hmn3, hmn4, hmn5, hmn6, hT53, E27_53]; with_reducible rfl)); (case hs => (simp; done)); (case hR => (simp only [List.nil_append, List.cons_append]; rfl)); skip)
 | (apply evQ_no; (case had => assumption); (case hg => rfl); (case hb => (simp [gval, evEff, dstB, ho, hv, e1, e1', e2, e2', e3, e3', hiI, hcI, hw1, hw2, envOf, hs0, hsv, hc1, hcap, hilI, hil', hcJ, hcK, hcapI, hcapJ, hq0, hq1, hs1I, hs1, hs2, hs3, hs4, hmn1, hmn2, hmn3, hmn4, hmn5, hmn6, hT53, E27_53]; with_reducible rfl)); (case hne => (simp; done)); (case hd => (simp [dstB]; done)); (case hR => (simp only [List.nil_append, List.cons_append]; rfl)); skip)
 | (apply evQ_split; (case hg => rfl); (case hb => (simp only [List.getElem?_cons_succ, List.getElem?_cons_zero]; rfl)); (case hv => ((fail_if_success (with_reducible exact (rfl : (_ : QR) = (AV.d (.val (.bool true)) _, none)))); (fail_if_success (with_reducible exact (rfl : (_ : QR) = (AV.d (.val (.bool false)) _, none)))); rfl)); (case hT => (simp only [List.set_cons_succ, List.set_cons_zero]; rfl)); (case hF => (simp only [List.set_cons_succ, List.set_cons_zero]; rfl)); skip)
 | (apply evOps_one; (case hg => rfl); (case h => (simp [evStep, evPure, ho, hv, e1, e1', e2, e2', e3, e3', hiI, hcI, hw1, hw2, envOf, hs0, hsv, hc1, hcap, hilI, hil', hcJ, hcK, hcapI, hcapJ, hq0, hq1, hs1I, hs1, hs2, hs3, hs4, hmn1, hmn2, hmn3, hmn4, hmn5, hmn6, hT53, E27_53]; with_reducible rfl)); skip)
 | (apply evOps_yes; (case hg => rfl); (case hb => (simp [gval, dstB, ho, hv, e1, e1', e2, e2', e3, e3', hiI, hcI, hw1, hw2, envOf, hs0, hsv, hc1, hcap, hilI, hil', hcJ, hcK, hcapI, hcapJ, hq0, hq1, hs1I, hs1, hs2, hs3, hs4, hmn1, hmn2, hmn3, hmn4, hmn5, hmn6, hT53, E27_53]; done)); (case h => (simp [evStep, evPure, ho, hv, e1, e1', e2, e2', e3, e3', hiI, hcI, hw1, hw2, envOf, hs0, hsv, hc1, hcap, hilI, hil', hcJ, hcK, hcapI, hcapJ, hq0, hq1, hs1I, hs1, hs2, hs3, hs4, hmn1, hmn2, hmn3, hmn4, hmn5, hmn6, hT53, E27_53]; with_reducible rfl)); skip)
 | (apply evOps_no; (case hg => rfl); (case hb => (simp [gval, dstB, ho, hv, e1, e1', e2, e2', e3, e3', hiI, hcI, hw1, hw2, envOf, hs0, hsv, hc1, hcap, hilI, hil', hcJ, hcK, hcapI, hcapJ, hq0, hq1, hs1I, hs1, hs2, hs3, hs4, hmn1, hmn2, hmn3, hmn4, hmn5, hmn6, hT53, E27_53]; with_reducible rfl)); (case hne => (simp; done)); (case hd => (simp [dstB]; done)); skip)
 | (apply evOps_big; (case hg => rfl); (case hd => (simp [dstB]; done)); (case hb => (simp [evBig, evStep, evPure, ho, hv, e1, e1', e2, e2', e3, e3', hiI, hcI, hw1, hw2, envOf, hs0, hsv, hc1, hcap, hilI, hil', hcJ, hcK, hcapI, hcapJ, hq0, hq1, hs1I, hs1, hs2, hs3, hs4, hmn1, hmn2, hmn3, hmn4, hmn5, hmn6, hT53, E27_53]; with_reducible rfl)); skip)
 | (apply evOps_bigYes; (case hg => rfl); (case hgv => (simp [gval, dstB, ho, hv, e1, e1', e2, e2', e3, e3', hiI, hcI, hw1, hw2, envOf, hs0, hsv, hc1, hcap, hilI, hil', hcJ, hcK, hcapI, hcapJ, hq0, hq1, hs1I, hs1, hs2, hs3, hs4, hmn1, hmn2, hmn3, hmn4, hmn5, hmn6, hT53, E27_53]; done)); (case hd => (simp [dstB]; done)); (case hb => (simp [evBig, evStep, evPure, ho, hv, e1, e1', e2, e2', e3, e3', hiI, hcI, hw1, hw2, envOf, hs0, hsv, hc1, hcap, hilI, hil', hcJ, hcK, hcapI, hcapJ, hq0, hq1, hs1I, hs1, hs2, hs3, hs4, hmn1, hmn2, hmn3, hmn4, hmn5, hmn6, hT53, E27_53]; with_reducible rfl)); skip)
 | (apply evOps_split; (case _hg => rfl); (case _ht => rfl); (case hb => (simp [dstB]; with_reducible rfl)); (case hv => ((fail_if_success (with_reducible exact (rfl : (_ : AV) = AV.d (.val (.bool true)) _))); (fail_if_success (with_reducible exact (rfl : (_ : AV) = AV.d (.val (.bool false)) _))); rfl)); skip)
 | (apply WP_cond; (case hx => (simp [St.eval, dstB, ho, hv, e1, e1', e2, e2', e3, e3', hiI, hcI, hw1, hw2, envOf, hs0, hsv, hc1, hcap, hilI, hil', hcJ, hcK, hcapI, hcapJ, hq0, hq1, hs1I, hs1, hs2, hs3, hs4, hmn1, hmn2, hmn3, hmn4, hmn5, hmn6, hT53, E27_53]; with_reducible rfl)); (case hv => rfl); skip))
      simp only []
      refine ⟨_, (by simp [resVals, Try.results27, dstB]; with_reducible rfl), _, _, _, rfl, moveAV_of rfl (by simp [dstB, e1, e1', e2, e2', e3, e3', e4, e4', e5, e5']; exact ⟨rfl, rfl, rfl, rfl⟩) ?hl, ?hk⟩
      case hl => simp only [List.length_append, List.length_take, List.length_drop, List.length_cons, List.length_map, List.length_replicate]; omega
      case hk =>
        refine hK _ (fr && frv) _ rfl ?_ ?_ ?_
        · simp [dstB, envOf]; try omega
        · simp only [put_env', put_own', put_ctr', put_none', setOwn_env', setOwn_own', setOwn_ctr', setCtr_env', setCtr_own', setCtr_ctr', entry, entryEnv, entryOwn, inAV, scAV, inOB, if_true]
          refine congrArg (fun z => some (OB.row 24 4 _ true false _ z)) ?_
          rw [insL_map]
          exact insL_3 hml hil'
        · intro x hx hx1 hx2
          have q1 : ¬ x = 1025 := by omega
          have q2 : ¬ x = 1040 := by omega
          simp [dstB, envOf, hx1, hx2, q1, q2]
    · have hsp0 : spare = [] := List.length_eq_zero_iff.mp (by omega)
      subst hsp0
      have hm1 : min i l.length = i := by omega
      have hm2 : min 1 (l.length + 1 - i) = 1 := by omega
      have hm3 : l.length + 1 - (i + 1) = l.length - i := by omega
      have hnn : ¬ l.length + 1 ≤ l.length := by omega
      have hnI : (l.length : Int) < (l.length : Int) + 1 := by omega
      repeat' (first
 | (intro h; first | (exfalso; exact Bool.noConfusion h) | (simp only [decide_eq_true_eq, decide_eq_false_iff_not] at h) | skip)
 | (apply evOps_fin; (case hf => (simp only [finGo, app1]; rfl)); skip)
 | refine WP_seq ?_
 | refine WP_scope ?_
 | refine WP_block ?_
 | refine WP_ret ?_
 | refine WP_skip ?_
 | refine WP_exit ?_
 | (apply WP_region; (case hl => rfl); (case hc => (simp only [put_env', put_own', put_ctr', put_none', setOwn_env', setOwn_own', setOwn_ctr', setCtr_env', setCtr_own', setCtr_ctr', entry, entryEnv, entryOwn, inAV, scAV, inOB]; rfl)); (case hc' => (conv => lhs; simp only [List.size_toArray, List.length_cons, List.length_nil, Nat.zero_add, Nat.reduceAdd, Nat.add_assoc])); skip)
 | (apply WP_draw; (case hl => rfl); (case hds => (simp only [List.map_cons, List.map_nil]; rfl)); (case hc => (simp only [put_env', put_own', put_ctr', put_none', setOwn_env', setOwn_own', setOwn_ctr', setCtr_env', setCtr_own', setCtr_ctr', entry, entryEnv, entryOwn, inAV, scAV, inOB]; rfl)); (case hc' => (conv => lhs; simp only [List.size_toArray, List.length_cons, List.length_nil, Nat.zero_add, Nat.reduceAdd, Nat.add_assoc])); (case hD => rfl); (case hb => kernel_rfl); (case h1 => (simp only [List.take_succ_cons, List.take_zero]; rfl)); (case h2 => (simp only [List.drop_succ_cons, List.drop_zero]; rfl)); (case h3 => (simp only [List.take_succ_cons, List.take_zero]; rfl)); intro had; skip)
 | refine evOps_nil ?_
 | refine evQ_nil ?_
 | (apply evQ_one; (case had => assumption); (case hg => rfl); (case hd => (simp [dstB]; done)); (case h => (simp [evQuiet, evCallQ, known, njk, AV.isJunk, Op.operands, Call.operands, evEff, evStep, evPure, ho, hv, e1, e1', e2, e2', e3, e3', hiI, hcI, hw1, hw2, hw3, envOf, hs0, hsv, hilI, hil', hcJ, hcK, hs1, hs1I, hs2, hs3, hs4, hb1, hb2, hm1, hm2, hm3, hnn, hnI, hq0, hq1]; with_reducible rfl)); (case hs => (simp; done)); (case hR => (simp only [List.nil_append, List.cons_append]; rfl)); skip)
 | (apply evQ_yes; (case had => assumption); (case hg => rfl); (case hb => (simp [gval, evEff, dstB, ho, hv, e1, e1', e2, e2', e3, e3', hiI, hcI, hw1, hw2, hw3, envOf, hs0, hsv, hilI, hil', hcJ, hcK, hs1, hs1I, hs2, hs3, hs4, hb1, hb2, hm1, hm2, hm3, hnn, hnI, hq0, hq1]; done)); (case hd => (simp [dstB]; done)); (case h => (simp [evQuiet, evCallQ, known, njk, AV.isJunk, Op.operands, Call.operands, evEff, evStep, evPure, ho, hv, e1, e1', e2, e2', e3, e3', hiI, hcI, hw1, hw2, hw3, envOf, hs0, hsv, hilI, hil', hcJ, hcK, hs1, hs1I, hs2, hs3, hs4, hb1, hb2, hm1, hm2, hm3, hnn, hnI, hq0, hq1]; with_reducible rfl)); (case hs => (simp; done)); (case hR => (simp only [List.nil_append, List.cons_append]; rfl)); skip)
 | (apply evQ_no; (case had => assumption); (case hg => rfl); (case hb => (simp [gval, evEff, dstB, ho, hv, e1, e1', e2, e2', e3, e3', hiI, hcI, hw1, hw2, hw3, envOf, hs0, hsv, hilI, hil', hcJ, hcK, hs1, hs1I, hs2, hs3, hs4, hb1, hb2, hm1, hm2, hm3, hnn, hnI, hq0, hq1]; with_reducible rfl)); (case hne => (simp; done)); (case hd => (simp [dstB]; done)); (case hR => (simp only [List.nil_append, List.cons_append]; rfl)); skip)
 | (apply evQ_split; (case hg => rfl); (case hb => (simp only [List.getElem?_cons_succ, List.getElem?_cons_zero]; rfl)); (case hv => ((fail_if_success (with_reducible exact (rfl : (_ : QR) = (AV.d (.val (.bool true)) _, none)))); (fail_if_success (with_reducible exact (rfl : (_ : QR) = (AV.d (.val (.bool false)) _, none)))); rfl)); (case hT => (simp only [List.set_cons_succ, List.set_cons_zero]; rfl)); (case hF => (simp only [List.set_cons_succ, List.set_cons_zero]; rfl)); skip)
 | (apply evOps_one; (case hg => rfl); (case h => (simp [evStep, evPure, ho, hv, e1, e1', e2, e2', e3, e3', hiI, hcI, hw1, hw2, hw3, envOf, hs0, hsv, hilI, hil', hcJ, hcK, hs1, hs1I, hs2, hs3, hs4, hb1, hb2, hm1, hm2, hm3, hnn, hnI, hq0, hq1]; with_reducible rfl)); skip)
 | (apply evOps_yes; (case hg => rfl); (case hb => (simp [gval, dstB, ho, hv, e1, e1', e2, e2', e3, e3', hiI, hcI, hw1, hw2, hw3, envOf, hs0, hsv, hilI, hil', hcJ, hcK, hs1, hs1I, hs2, hs3, hs4, hb1, hb2, hm1, hm2, hm3, hnn, hnI, hq0, hq1]; done)); (case h => (simp [evStep, evPure, ho, hv, e1, e1', e2, e2', e3, e3', hiI, hcI, hw1, hw2, hw3, envOf, hs0, hsv, hilI, hil', hcJ, hcK, hs1, hs1I, hs2, hs3, hs4, hb1, hb2, hm1, hm2, hm3, hnn, hnI, hq0, hq1]; with_reducible rfl)); skip)
 | (apply evOps_no; (case hg => rfl); (case hb => (simp [gval, dstB, ho, hv, e1, e1', e2, e2', e3, e3', hiI, hcI, hw1, hw2, hw3, envOf, hs0, hsv, hilI, hil', hcJ, hcK, hs1, hs1I, hs2, hs3, hs4, hb1, hb2, hm1, hm2, hm3, hnn, hnI, hq0, hq1]; with_reducible rfl)); (case hne => (simp; done)); (case hd => (simp [dstB]; done)); skip)
 | (apply evOps_big; (case hg => rfl); (case hd => (simp [dstB]; done)); (case hb => (simp [evBig, evStep, evPure, ho, hv, e1, e1', e2, e2', e3, e3', hiI, hcI, hw1, hw2, hw3, envOf, hs0, hsv, hilI, hil', hcJ, hcK, hs1, hs1I, hs2, hs3, hs4, hb1, hb2, hm1, hm2, hm3, hnn, hnI, hq0, hq1]; with_reducible rfl)); skip)
 | (apply evOps_bigYes; (case hg => rfl); (case hgv => (simp [gval, dstB, ho, hv, e1, e1', e2, e2', e3, e3', hiI, hcI, hw1, hw2, hw3, envOf, hs0, hsv, hilI, hil', hcJ, hcK, hs1, hs1I, hs2, hs3, hs4, hb1, hb2, hm1, hm2, hm3, hnn, hnI, hq0, hq1]; done)); (case hd => (simp [dstB]; done)); (case hb => (simp [evBig, evStep, evPure, ho, hv, e1, e1', e2, e2', e3, e3', hiI, hcI, hw1, hw2, hw3, envOf, hs0, hsv, hilI, hil', hcJ, hcK, hs1, hs1I, hs2, hs3, hs4, hb1, hb2, hm1, hm2, hm3, hnn, hnI, hq0, hq1]; with_reducible rfl)); skip)
 | (apply evOps_split; (case _hg => rfl); (case _ht => rfl); (case hb => (simp [dstB]; with_reducible rfl)); (case hv => ((fail_if_success (with_reducible exact (rfl : (_ : AV) = AV.d (.val (.bool true)) _))); (fail_if_success (with_reducible exact (rfl : (_ : AV) = AV.d (.val (.bool false)) _))); rfl)); skip)
 | (apply WP_cond; (case hx => (simp [St.eval, dstB, ho, hv, e1, e1', e2, e2', e3, e3', hiI, hcI, hw1, hw2, hw3, envOf, hs0, hsv, hilI, hil', hcJ, hcK, hs1, hs1I, hs2, hs3, hs4, hb1, hb2, hm1, hm2, hm3, hnn, hnI, hq0, hq1]; with_reducible rfl)); (case hv => rfl); skip))
      simp only []
      refine ⟨_, (by simp [resVals, Try.results27, dstB]; with_reducible rfl), _, _, _, rfl, moveAV_of rfl (by simp [dstB, e1, e1', e2, e2', e3, e3', e4, e4', e5, e5']; exact ⟨rfl, rfl, rfl, rfl⟩) ?hl, ?hk⟩
      case hl => simp only [List.length_append, List.length_take, List.length_drop, List.length_cons, List.length_map, List.length_replicate]; omega
      case hk =>
        refine hK _ (fr && frv && fr) _ rfl ?_ ?_ ?_
        · simp [dstB, envOf]; try omega
        · simp only [put_env', put_own', put_ctr', put_none', setOwn_env', setOwn_own', setOwn_ctr', setCtr_env', setCtr_own', setCtr_ctr', entry, entryEnv, entryOwn, inAV, scAV, inOB, if_true]
          refine congrArg (fun z => some (OB.row 24 4 _ true false _ z)) ?_
          rw [insL_map]
          exact insL_4 hml hil'
        · intro x hx hx1 hx2
          have q1 : ¬ x = 1025 := by omega
          have q2 : ¬ x = 1040 := by omega
          simp [dstB, envOf, hx1, hx2, q1, q2]

theorem insNil_walk {T : Tbl} {σ : St} {sv s gv : Nat} {frv av mv fi fn : Bool} {e : Xt} {K : AV → St → Prop} (h2 : sv < 1000)
    (hv : σ.own sv = some (.row 24 4 gv av mv frv [e.enc])) (hT53 : T 53 = none)
    (hK : ∀ c fr' σ', σ'.env = σ.env → σ.ctr ≤ σ'.ctr → σ'.own s = some (.row 24 4 c true false fr' ([e].map Xt.enc)) → (∀ x, x < 1000 → x ≠ s → σ'.own x = σ.own x) → K (.rs s c 0 1) σ') :
    trMove Try.prog T E27 D27 Try.f27 b27 1000 s 0 [.d (.sl true []) fn, .d (vi 0) fi, .rs sv gv 0 1] K σ := by
  refine ⟨by simp [Try.ntmps27], ?_⟩
  show WP _ _ _ _ _ _ _ (Code.seq _ _) _ _
  have e2 : ¬ sv = 1040 := by omega
  have e2' : ¬ 1040 = sv := by omega
  have e5 : ¬ sv = 1025 := by omega
  have e5' : ¬ 1025 = sv := by omega
  have hsv : ¬ 1000 ≤ sv := by omega
  repeat' (first
 | (intro h; first | (exfalso; exact Bool.noConfusion h) | (simp only [decide_eq_true_eq, decide_eq_false_iff_not] at h) | skip)
 | (apply evOps_fin; (case hf => (simp only [finGo, app1]; rfl)); skip)
 | refine WP_seq ?_
 | refine WP_scope ?_
 | refine WP_block ?_
 | refine WP_ret ?_
 | refine WP_skip ?_
 | refine WP_exit ?_
 | (apply WP_region; (case hl => rfl); (case hc => (simp only [put_env', put_own', put_ctr', put_none', setOwn_env', setOwn_own', setOwn_ctr', setCtr_env', setCtr_own', setCtr_ctr', entry, entryEnv, entryOwn, inAV, scAV, inOB]; rfl)); (case hc' => (conv => lhs; simp only [List.size_toArray, List.length_cons, List.length_nil, Nat.zero_add, Nat.reduceAdd, Nat.add_assoc])); skip)
 | (apply WP_draw; (case hl => rfl); (case hds => (simp only [List.map_cons, List.map_nil]; rfl)); (case hc => (simp only [put_env', put_own', put_ctr', put_none', setOwn_env', setOwn_own', setOwn_ctr', setCtr_env', setCtr_own', setCtr_ctr', entry, entryEnv, entryOwn, inAV, scAV, inOB]; rfl)); (case hc' => (conv => lhs; simp only [List.size_toArray, List.length_cons, List.length_nil, Nat.zero_add, Nat.reduceAdd, Nat.add_assoc])); (case hD => rfl); (case hb => kernel_rfl); (case h1 => (simp only [List.take_succ_cons, List.take_zero]; rfl)); (case h2 => (simp only [List.drop_succ_cons, List.drop_zero]; rfl)); (case h3 => (simp only [List.take_succ_cons, List.take_zero]; rfl)); intro had; skip)
 | refine evOps_nil ?_
 | refine evQ_nil ?_
 | (apply evQ_one; (case had => assumption); (case hg => rfl); (case hd => (simp [dstB]; done)); (case h => (simp [evQuiet, evCallQ, known, njk, AV.isJunk, Op.operands, Call.operands, evEff, evStep, evPure, hv, e2, e2', e5, e5', hsv, envOf]; with_reducible rfl)); (case hs => (simp; done)); (case hR => (simp only [List.nil_append, List.cons_append]; rfl)); skip)
 | (apply evQ_yes; (case had => assumption); (case hg => rfl); (case hb => (simp [gval, evEff, dstB, hv, e2, e2', e5, e5', hsv, envOf]; done)); (case hd => (simp [dstB]; done)); (case h => (simp [evQuiet, evCallQ, known, njk, AV.isJunk, Op.operands, Call.operands, evEff, evStep, evPure, hv, e2, e2', e5, e5', hsv, envOf]; with_reducible rfl)); (case hs => (simp; done)); (case hR => (simp only [List.nil_append, List.cons_append]; rfl)); skip)
 | (apply evQ_no; (case had => assumption); (case hg => rfl); (case hb => (simp [gval, evEff, dstB, hv, e2, e2', e5, e5', hsv, envOf]; with_reducible rfl)); (case hne => (simp; done)); (case hd => (simp [dstB]; done)); (case hR => (simp only [List.nil_append, List.cons_append]; rfl)); skip)
 | (apply evQ_split; (case hg => rfl); (case hb => (simp only [List.getElem?_cons_succ, List.getElem?_cons_zero]; rfl)); (case hv => ((fail_if_success (with_reducible exact (rfl : (_ : QR) = (AV.d (.val (.bool true)) _, none)))); (fail_if_success (with_reducible exact (rfl : (_ : QR) = (AV.d (.val (.bool false)) _, none)))); rfl)); (case hT => (simp only [List.set_cons_succ, List.set_cons_zero]; rfl)); (case hF => (simp only [List.set_cons_succ, List.set_cons_zero]; rfl)); skip)
 | (apply evOps_one; (case hg => rfl); (case h => (simp [evStep, evPure, hv, e2, e2', e5, e5', hsv, envOf]; with_reducible rfl)); skip)
 | (apply evOps_yes; (case hg => rfl); (case hb => (simp [gval, dstB, hv, e2, e2', e5, e5', hsv, envOf]; done)); (case h => (simp [evStep, evPure, hv, e2, e2', e5, e5', hsv, envOf]; with_reducible rfl)); skip)
 | (apply evOps_no; (case hg => rfl); (case hb => (simp [gval, dstB, hv, e2, e2', e5, e5', hsv, envOf]; with_reducible rfl)); (case hne => (simp; done)); (case hd => (simp [dstB]; done)); skip)
 | (apply evOps_big; (case hg => rfl); (case hd => (simp [dstB]; done)); (case hb => (simp [evBig, evStep, evPure, hv, e2, e2', e5, e5', hsv, envOf]; with_reducible rfl)); skip)
 | (apply evOps_bigYes; (case hg => rfl); (case hgv => (simp [gval, dstB, hv, e2, e2', e5, e5', hsv, envOf]; done)); (case hd => (simp [dstB]; done)); (case hb => (simp [evBig, evStep, evPure, hv, e2, e2', e5, e5', hsv, envOf]; with_reducible rfl)); skip)
 | (apply evOps_split; (case _hg => rfl); (case _ht => rfl); (case hb => (simp [dstB]; with_reducible rfl)); (case hv => ((fail_if_success (with_reducible exact (rfl : (_ : AV) = AV.d (.val (.bool true)) _))); (fail_if_success (with_reducible exact (rfl : (_ : AV) = AV.d (.val (.bool false)) _))); rfl)); skip)
 | (apply WP_cond; (case hx => (simp [St.eval, dstB, hv, e2, e2', e5, e5', hsv, envOf]; with_reducible rfl)); (case hv => rfl); skip))
  simp only []
  refine ⟨_, (by simp [resVals, Try.results27, dstB]; with_reducible rfl), _, _, _, rfl, moveAV_of rfl (by simp [dstB, e2, e2', e5, e5']; exact ⟨rfl, rfl, rfl, rfl⟩) ?hl, ?hk⟩
  case hl => simp
  case hk =>
    refine hK _ frv _ rfl ?_ ?_ ?_
    · simp [dstB, envOf]; try omega
    · simp only [put_env', put_own', put_ctr', put_none', setOwn_env', setOwn_own', setOwn_ctr', setCtr_env', setCtr_own', setCtr_ctr', entry, entryEnv, entryOwn, inAV, scAV, inOB, if_true]
      rfl
    · intro x hx hx1
      have q1 : ¬ x = 1025 := by omega
      have q2 : ¬ x = 1040 := by omega
      simp [dstB, envOf, hx1, q1, q2]
end Go.Dv

/-
  DERIVED, MY OWN. THE WALK OF Put.
-/


set_option autoImplicit false
set_option maxRecDepth 20000
set_option linter.unusedSimpArgs false
set_option linter.unusedVariables false
namespace Go.Dv
open Go Go.RowKit Go.Proofs

def D9 : Dep := fun
  | 4 => (5, [[], [0], [], [], [3], [0, 1, 2, 3, 4], [0, 1, 2, 3, 4, 5]])
  | 5 => (19, [[], [], [1], [0, 1, 2], [0, 1, 2, 3], [0, 1, 2, 3, 4], [0, 1, 2, 3, 4], [0, 1, 2, 3, 4, 5, 6], [0, 1, 2, 3, 4, 5, 6, 7], [0, 1, 2, 3, 4, 5, 6, 7, 8], [0, 1, 2, 3, 4], [0, 1, 2, 3, 4, 10], [0, 1, 2, 3, 4, 5, 6, 7, 8, 9, 10, 11], [0, 1, 2, 3, 4, 5, 6, 7, 8, 9, 10, 11, 12], [0, 1, 2, 3, 4, 5, 6, 7, 8, 9, 10, 11, 12, 13], [0, 1, 2, 3, 4, 5, 6, 7, 8, 9, 10, 11, 12, 13, 14], [0, 1, 2, 3, 4, 5, 6, 7, 8, 9, 10, 11, 12, 13, 14, 15], [0, 1, 2, 3, 4, 5, 6, 7, 8, 9, 10, 11, 12, 13, 14, 15, 16], [0, 1, 2, 3, 4, 5, 6, 7, 8, 9, 10, 11, 12, 13, 14, 15, 16, 17]])
  | _ => (0, [])
noncomputable def tr27 (T : Tbl) : Tr := trOr (trFill Try.prog T E27 D27 Try.f27 b27 1000) (trMove Try.prog T E27 D27 Try.f27 b27 1000)
noncomputable def E9 (T : Tbl) : Big := ⟨fun f => if f = 27 then some (tr27 T) else none, none, fun _ => none⟩
theorem tr27_ok {T : Tbl} (hT : TblOk' Try.prog T) : TrOk Try.prog 27 (tr27 T) :=
  trOr_ok (trFill_ok E27_ok hT mix10 Try.func27 hb27 1000) (trMove_ok E27_ok hT mix10 Try.func27 hb27 1000)
theorem E9_ok {T : Tbl} (hT : TblOk' Try.prog T) : GBig Try.prog (E9 T) := by
  intro A0 M w0
  constructor
  · intro f tr h
    simp only [E9] at h
    split at h
    · rename_i e
      subst e
      obtain rfl := Option.some.inj h
      exact .inl ⟨tr27_ok hT, fun args w => callEnter Try.func27 (by kernel_rfl) hb27 args w⟩
    · cases h
  · intro tr h; simp [E9] at h
  · intro f itr h; simp [E9] at h
theorem E9_27 (T : Tbl) : (E9 T).fn 27 = some (tr27 T) := rfl

set_option maxHeartbeats 2000000 in
theorem ok9 {T : Tbl} (hT : TblOk' Try.prog T) (h7 : T 7 = some sp7) (h22 : T 22 = some sp22) (h23 : T 23 = some sp23) (h25 : T 25 = some sp25) (h26 : T 26 = some sp26) (h27 : T 27 = none) (h28 : T 28 = some sp28) (h29 : T 29 = some sp29) (h53 : T 53 = none) : FOk Try.prog 9 sp9 := by
  intro ins out h
  obtain ⟨n, l, e, rfl, hn, rfl⟩ := sp9_inv h
  clear h
  refine at_of_bodyE (E := E9 T) (D := D9) (E9_ok hT) hT mix10 Try.func9 rfl (by simp [Try.ntmps9]) (fun ty => ?_)
  cases hc : checkX l
  · repeat' (first
 | (intro h; first | (exfalso; exact Bool.noConfusion h) | (simp only [decide_eq_true_eq, decide_eq_false_iff_not] at h) | skip)
 | (apply evOps_fin; (case hf => (simp only [finGo, app1]; rfl)); skip)
 | refine WP_seq ?_
 | refine WP_scope ?_
 | refine WP_block ?_
 | refine WP_ret ?_
 | refine WP_skip ?_
 | refine WP_exit ?_
 | (apply WP_region; (case hl => rfl); (case hc => (simp only [put_env', put_own', put_ctr', put_none', setOwn_env', setOwn_own', setOwn_ctr', setCtr_env', setCtr_own', setCtr_ctr', entry, entryEnv, entryOwn, inAV, scAV, inOB]; rfl)); (case hc' => (conv => lhs; simp only [List.size_toArray, List.length_cons, List.length_nil, Nat.zero_add, Nat.reduceAdd, Nat.add_assoc])); skip)
 | (apply WP_draw; (case hl => rfl); (case hds => (simp only [List.map_cons, List.map_nil]; rfl)); (case hc => (simp only [put_env', put_own', put_ctr', put_none', setOwn_env', setOwn_own', setOwn_ctr', setCtr_env', setCtr_own', setCtr_ctr', entry, entryEnv, entryOwn, inAV, scAV, inOB]; rfl)); (case hc' => (conv => lhs; simp only [List.size_toArray, List.length_cons, List.length_nil, Nat.zero_add, Nat.reduceAdd, Nat.add_assoc])); (case hD => rfl); (case hb => kernel_rfl); (case h1 => (simp only [List.take_succ_cons, List.take_zero]; rfl)); (case h2 => (simp only [List.drop_succ_cons, List.drop_zero]; rfl)); (case h3 => (simp only [List.take_succ_cons, List.take_zero]; rfl)); intro had; skip)
 | refine evOps_nil ?_
 | refine evQ_nil ?_
 | (apply evQ_one; (case had => assumption); (case hg => rfl); (case hd => (simp [dstB]; done)); (case h => (simp [evQuiet, evCallQ, known, njk, AV.isJunk, Op.operands, Call.operands, evEff, evStep, evPure, h7, sp7, decL_enc, hc, Xt.enc]; with_reducible rfl)); (case hs => (simp; done)); (case hR => (simp only [List.nil_append, List.cons_append]; rfl)); skip)
 | (apply evQ_yes; (case had => assumption); (case hg => rfl); (case hb => (simp [gval, evEff, dstB, h7, sp7, decL_enc, hc, Xt.enc]; done)); (case hd => (simp [dstB]; done)); (case h => (simp [evQuiet, evCallQ, known, njk, AV.isJunk, Op.operands, Call.operands, evEff, evStep, evPure, h7, sp7, decL_enc, hc, Xt.enc]; with_reducible rfl)); (case hs => (simp; done)); (case hR => (simp only [List.nil_append, List.cons_append]; rfl)); skip)
 | (apply evQ_no; (case had => assumption); (case hg => rfl); (case hb => (simp [gval, evEff, dstB, h7, sp7, decL_enc, hc, Xt.enc]; with_reducible rfl)); (case hne => (simp; done)); (case hd => (simp [dstB]; done)); (case hR => (simp only [List.nil_append, List.cons_append]; rfl)); skip)
 | (apply evQ_split; (case hg => rfl); (case hb => (simp only [List.getElem?_cons_succ, List.getElem?_cons_zero]; rfl)); (case hv => ((fail_if_success (with_reducible exact (rfl : (_ : QR) = (AV.d (.val (.bool true)) _, none)))); (fail_if_success (with_reducible exact (rfl : (_ : QR) = (AV.d (.val (.bool false)) _, none)))); rfl)); (case hT => (simp only [List.set_cons_succ, List.set_cons_zero]; rfl)); (case hF => (simp only [List.set_cons_succ, List.set_cons_zero]; rfl)); skip)
 | (apply evOps_one; (case hg => rfl); (case h => (simp [evStep, evPure, h7, sp7, decL_enc, hc, Xt.enc]; with_reducible rfl)); skip)
 | (apply evOps_yes; (case hg => rfl); (case hb => (simp [gval, dstB, h7, sp7, decL_enc, hc, Xt.enc]; done)); (case h => (simp [evStep, evPure, h7, sp7, decL_enc, hc, Xt.enc]; with_reducible rfl)); skip)
 | (apply evOps_no; (case hg => rfl); (case hb => (simp [gval, dstB, h7, sp7, decL_enc, hc, Xt.enc]; with_reducible rfl)); (case hne => (simp; done)); (case hd => (simp [dstB]; done)); skip)
 | (apply evOps_big; (case hg => rfl); (case hd => (simp [dstB]; done)); (case hb => (simp [evBig, evStep, evPure, h7, sp7, decL_enc, hc, Xt.enc]; with_reducible rfl)); skip)
 | (apply evOps_bigYes; (case hg => rfl); (case hgv => (simp [gval, dstB, h7, sp7, decL_enc, hc, Xt.enc]; done)); (case hd => (simp [dstB]; done)); (case hb => (simp [evBig, evStep, evPure, h7, sp7, decL_enc, hc, Xt.enc]; with_reducible rfl)); skip)
 | (apply evOps_split; (case _hg => rfl); (case _ht => rfl); (case hb => (simp [dstB]; with_reducible rfl)); (case hv => ((fail_if_success (with_reducible exact (rfl : (_ : AV) = AV.d (.val (.bool true)) _))); (fail_if_success (with_reducible exact (rfl : (_ : AV) = AV.d (.val (.bool false)) _))); rfl)); skip)
 | (apply WP_cond; (case hx => (simp [St.eval, dstB, h7, sp7, decL_enc, hc, Xt.enc]; with_reducible rfl)); (case hv => rfl); skip))
    all_goals simp [Fin1, resVals, ownOf, FinList1, FinOne1, FinWr1, nodupB, Try.results9, out9, outErr, hc, evStep, evPure]
  · cases he : mayX e
    · repeat' (first
 | (intro h; first | (exfalso; exact Bool.noConfusion h) | (simp only [decide_eq_true_eq, decide_eq_false_iff_not] at h) | skip)
 | (apply evOps_fin; (case hf => (simp only [finGo, app1]; rfl)); skip)
 | refine WP_seq ?_
 | refine WP_scope ?_
 | refine WP_block ?_
 | refine WP_ret ?_
 | refine WP_skip ?_
 | refine WP_exit ?_
 | (apply WP_region; (case hl => rfl); (case hc => (simp only [put_env', put_own', put_ctr', put_none', setOwn_env', setOwn_own', setOwn_ctr', setCtr_env', setCtr_own', setCtr_ctr', entry, entryEnv, entryOwn, inAV, scAV, inOB]; rfl)); (case hc' => (conv => lhs; simp only [List.size_toArray, List.length_cons, List.length_nil, Nat.zero_add, Nat.reduceAdd, Nat.add_assoc])); skip)
 | (apply WP_draw; (case hl => rfl); (case hds => (simp only [List.map_cons, List.map_nil]; rfl)); (case hc => (simp only [put_env', put_own', put_ctr', put_none', setOwn_env', setOwn_own', setOwn_ctr', setCtr_env', setCtr_own', setCtr_ctr', entry, entryEnv, entryOwn, inAV, scAV, inOB]; rfl)); (case hc' => (conv => lhs; simp only [List.size_toArray, List.length_cons, List.length_nil, Nat.zero_add, Nat.reduceAdd, Nat.add_assoc])); (case hD => rfl); (case hb => kernel_rfl); (case h1 => (simp only [List.take_succ_cons, List.take_zero]; rfl)); (case h2 => (simp only [List.drop_succ_cons, List.drop_zero]; rfl)); (case h3 => (simp only [List.take_succ_cons, List.take_zero]; rfl)); intro had; skip)
 | refine evOps_nil ?_
 | refine evQ_nil ?_
 | (apply evQ_one; (case had => assumption); (case hg => rfl); (case hd => (simp [dstB]; done)); (case h => (simp [evQuiet, evCallQ, known, njk, AV.isJunk, Op.operands, Call.operands, evEff, evStep, evPure, h7, sp7, h22, sp22, decL_enc, hc, decX, xt_eta, he, Xt.enc]; with_reducible rfl)); (case hs => (simp; done)); (case hR => (simp only [List.nil_append, List.cons_append]; rfl)); skip)
 | (apply evQ_yes; (case had => assumption); (case hg => rfl); (case hb => (simp [gval, evEff, dstB, h7, sp7, h22, sp22, decL_enc, hc, decX, xt_eta, he, Xt.enc]; done)); (case hd => (simp [dstB]; done)); (case h => (simp [evQuiet, evCallQ, known, njk, AV.isJunk, Op.operands, Call.operands, evEff, evStep, evPure, h7, sp7, h22, sp22, decL_enc, hc, decX, xt_eta, he, Xt.enc]; with_reducible rfl)); (case hs => (simp; done)); (case hR => (simp only [List.nil_append, List.cons_append]; rfl)); skip)
 | (apply evQ_no; (case had => assumption); (case hg => rfl); (case hb => (simp [gval, evEff, dstB, h7, sp7, h22, sp22, decL_enc, hc, decX, xt_eta, he, Xt.enc]; with_reducible rfl)); (case hne => (simp; done)); (case hd => (simp [dstB]; done)); (case hR => (simp only [List.nil_append, List.cons_append]; rfl)); skip)
 | (apply evQ_split; (case hg => rfl); (case hb => (simp only [List.getElem?_cons_succ, List.getElem?_cons_zero]; rfl)); (case hv => ((fail_if_success (with_reducible exact (rfl : (_ : QR) = (AV.d (.val (.bool true)) _, none)))); (fail_if_success (with_reducible exact (rfl : (_ : QR) = (AV.d (.val (.bool false)) _, none)))); rfl)); (case hT => (simp only [List.set_cons_succ, List.set_cons_zero]; rfl)); (case hF => (simp only [List.set_cons_succ, List.set_cons_zero]; rfl)); skip)
 | (apply evOps_one; (case hg => rfl); (case h => (simp [evStep, evPure, h7, sp7, h22, sp22, decL_enc, hc, decX, xt_eta, he, Xt.enc]; with_reducible rfl)); skip)
 | (apply evOps_yes; (case hg => rfl); (case hb => (simp [gval, dstB, h7, sp7, h22, sp22, decL_enc, hc, decX, xt_eta, he, Xt.enc]; done)); (case h => (simp [evStep, evPure, h7, sp7, h22, sp22, decL_enc, hc, decX, xt_eta, he, Xt.enc]; with_reducible rfl)); skip)
 | (apply evOps_no; (case hg => rfl); (case hb => (simp [gval, dstB, h7, sp7, h22, sp22, decL_enc, hc, decX, xt_eta, he, Xt.enc]; with_reducible rfl)); (case hne => (simp; done)); (case hd => (simp [dstB]; done)); skip)
 | (apply evOps_big; (case hg => rfl); (case hd => (simp [dstB]; done)); (case hb => (simp [evBig, evStep, evPure, h7, sp7, h22, sp22, decL_enc, hc, decX, xt_eta, he, Xt.enc]; with_reducible rfl)); skip)
 | (apply evOps_bigYes; (case hg => rfl); (case hgv => (simp [gval, dstB, h7, sp7, h22, sp22, decL_enc, hc, decX, xt_eta, he, Xt.enc]; done)); (case hd => (simp [dstB]; done)); (case hb => (simp [evBig, evStep, evPure, h7, sp7, h22, sp22, decL_enc, hc, decX, xt_eta, he, Xt.enc]; with_reducible rfl)); skip)
 | (apply evOps_split; (case _hg => rfl); (case _ht => rfl); (case hb => (simp [dstB]; with_reducible rfl)); (case hv => ((fail_if_success (with_reducible exact (rfl : (_ : AV) = AV.d (.val (.bool true)) _))); (fail_if_success (with_reducible exact (rfl : (_ : AV) = AV.d (.val (.bool false)) _))); rfl)); skip)
 | (apply WP_cond; (case hx => (simp [St.eval, dstB, h7, sp7, h22, sp22, decL_enc, hc, decX, xt_eta, he, Xt.enc]; with_reducible rfl)); (case hv => rfl); skip))
      all_goals simp [Fin1, resVals, ownOf, FinList1, FinOne1, FinWr1, nodupB, Try.results9, out9, outErr, hc, he, evStep, evPure]
    · have hch := check_chain hc
      have hlen := check_len hc
      have hok : okX l = true := by simp [okX, hch]; omega
      have hl1 : l.length ≤ 1000 := by omega
      obtain ⟨i, hi⟩ : ∃ i, behindX l e.at' = i := ⟨_, rfl⟩
      have hil : i ≤ l.length := hi ▸ behindX_le l e.at'
      cases n
      · repeat' (first
 | (intro h; first | (exfalso; exact Bool.noConfusion h) | (simp only [decide_eq_true_eq, decide_eq_false_iff_not] at h) | skip)
 | (apply evOps_fin; (case hf => (simp only [finGo, app1]; rfl)); skip)
 | refine WP_seq ?_
 | refine WP_scope ?_
 | refine WP_block ?_
 | refine WP_ret ?_
 | refine WP_skip ?_
 | refine WP_exit ?_
 | (apply WP_region; (case hl => rfl); (case hc => (simp only [put_env', put_own', put_ctr', put_none', setOwn_env', setOwn_own', setOwn_ctr', setCtr_env', setCtr_own', setCtr_ctr', entry, entryEnv, entryOwn, inAV, scAV, inOB]; rfl)); (case hc' => (conv => lhs; simp only [List.size_toArray, List.length_cons, List.length_nil, Nat.zero_add, Nat.reduceAdd, Nat.add_assoc])); skip)
 | (apply WP_draw; (case hl => rfl); (case hds => (simp only [List.map_cons, List.map_nil]; rfl)); (case hc => (simp only [put_env', put_own', put_ctr', put_none', setOwn_env', setOwn_own', setOwn_ctr', setCtr_env', setCtr_own', setCtr_ctr', entry, entryEnv, entryOwn, inAV, scAV, inOB]; rfl)); (case hc' => (conv => lhs; simp only [List.size_toArray, List.length_cons, List.length_nil, Nat.zero_add, Nat.reduceAdd, Nat.add_assoc])); (case hD => rfl); (case hb => kernel_rfl); (case h1 => (simp only [List.take_succ_cons, List.take_zero]; rfl)); (case h2 => (simp only [List.drop_succ_cons, List.drop_zero]; rfl)); (case h3 => (simp only [List.take_succ_cons, List.take_zero]; rfl)); intro had; skip)
 | refine evOps_nil ?_
 | refine evQ_nil ?_
 | (apply evQ_one; (case had => assumption); (case hg => rfl); (case hd => (simp [dstB]; done)); (case h => (simp [evQuiet, evCallQ, known, njk, AV.isJunk, Op.operands, Call.operands, evEff, evStep, evPure, h7, sp7, h22, sp22, h26, sp26, h28, sp28, out28, decL_enc, hc, decX, xt_eta, he, hok, hl1, hi, Xt.enc, h27, E9_27, List.filter_cons]; with_reducible rfl)); (case hs => (simp; done)); (case hR => (simp only [List.nil_append, List.cons_append]; rfl)); skip)
 | (apply evQ_yes; (case had => assumption); (case hg => rfl); (case hb => (simp [gval, evEff, dstB, h7, sp7, h22, sp22, h26, sp26, h28, sp28, out28, decL_enc, hc, decX, xt_eta, he, hok, hl1, hi, Xt.enc, h27, E9_27, List.filter_cons]; done)); (case hd => (simp [dstB]; done)); (case h => (simp [evQuiet, evCallQ, known, njk, AV.isJunk, Op.operands, Call.operands, evEff, evStep, evPure, h7, sp7, h22, sp22, h26, sp26, h28, sp28, out28, decL_enc, hc, decX, xt_eta, he, hok, hl1, hi, Xt.enc, h27, E9_27, List.filter_cons]; with_reducible rfl)); (case hs => (simp; done)); (case hR => (simp only [List.nil_append, List.cons_append]; rfl)); skip)
 | (apply evQ_no; (case had => assumption); (case hg => rfl); (case hb => (simp [gval, evEff, dstB, h7, sp7, h22, sp22, h26, sp26, h28, sp28, out28, decL_enc, hc, decX, xt_eta, he, hok, hl1, hi, Xt.enc, h27, E9_27, List.filter_cons]; with_reducible rfl)); (case hne => (simp; done)); (case hd => (simp [dstB]; done)); (case hR => (simp only [List.nil_append, List.cons_append]; rfl)); skip)
 | (apply evQ_split; (case hg => rfl); (case hb => (simp only [List.getElem?_cons_succ, List.getElem?_cons_zero]; rfl)); (case hv => ((fail_if_success (with_reducible exact (rfl : (_ : QR) = (AV.d (.val (.bool true)) _, none)))); (fail_if_success (with_reducible exact (rfl : (_ : QR) = (AV.d (.val (.bool false)) _, none)))); rfl)); (case hT => (simp only [List.set_cons_succ, List.set_cons_zero]; rfl)); (case hF => (simp only [List.set_cons_succ, List.set_cons_zero]; rfl)); skip)
 | (apply evOps_one; (case hg => rfl); (case h => (simp [evStep, evPure, h7, sp7, h22, sp22, h26, sp26, h28, sp28, out28, decL_enc, hc, decX, xt_eta, he, hok, hl1, hi, Xt.enc, h27, E9_27, List.filter_cons]; with_reducible rfl)); skip)
 | (apply evOps_yes; (case hg => rfl); (case hb => (simp [gval, dstB, h7, sp7, h22, sp22, h26, sp26, h28, sp28, out28, decL_enc, hc, decX, xt_eta, he, hok, hl1, hi, Xt.enc, h27, E9_27, List.filter_cons]; done)); (case h => (simp [evStep, evPure, h7, sp7, h22, sp22, h26, sp26, h28, sp28, out28, decL_enc, hc, decX, xt_eta, he, hok, hl1, hi, Xt.enc, h27, E9_27, List.filter_cons]; with_reducible rfl)); skip)
 | (apply evOps_no; (case hg => rfl); (case hb => (simp [gval, dstB, h7, sp7, h22, sp22, h26, sp26, h28, sp28, out28, decL_enc, hc, decX, xt_eta, he, hok, hl1, hi, Xt.enc, h27, E9_27, List.filter_cons]; with_reducible rfl)); (case hne => (simp; done)); (case hd => (simp [dstB]; done)); skip)
 | (apply evOps_big; (case hg => rfl); (case hd => (simp [dstB]; done)); (case hb => (simp [evBig, evStep, evPure, h7, sp7, h22, sp22, h26, sp26, h28, sp28, out28, decL_enc, hc, decX, xt_eta, he, hok, hl1, hi, Xt.enc, h27, E9_27, List.filter_cons]; with_reducible rfl)); skip)
 | (apply evOps_bigYes; (case hg => rfl); (case hgv => (simp [gval, dstB, h7, sp7, h22, sp22, h26, sp26, h28, sp28, out28, decL_enc, hc, decX, xt_eta, he, hok, hl1, hi, Xt.enc, h27, E9_27, List.filter_cons]; done)); (case hd => (simp [dstB]; done)); (case hb => (simp [evBig, evStep, evPure, h7, sp7, h22, sp22, h26, sp26, h28, sp28, out28, decL_enc, hc, decX, xt_eta, he, hok, hl1, hi, Xt.enc, h27, E9_27, List.filter_cons]; with_reducible rfl)); skip)
 | (apply evOps_split; (case _hg => rfl); (case _ht => rfl); (case hb => (simp [dstB]; with_reducible rfl)); (case hv => ((fail_if_success (with_reducible exact (rfl : (_ : AV) = AV.d (.val (.bool true)) _))); (fail_if_success (with_reducible exact (rfl : (_ : AV) = AV.d (.val (.bool false)) _))); rfl)); skip)
 | (apply WP_cond; (case hx => (simp [St.eval, dstB, h7, sp7, h22, sp22, h26, sp26, h28, sp28, out28, decL_enc, hc, decX, xt_eta, he, hok, hl1, hi, Xt.enc, h27, E9_27, List.filter_cons]; with_reducible rfl)); (case hv => rfl); skip))
        refine .inl (ins_walk (l := l) (e := e) (fr := true) (av := true) (mv := false) (frv := false) hil hl1 (by decide) (by decide) (by decide) (by simp [dstB]) (by simp [dstB, Xt.enc]) h53 ?_)
        intro c fr' σ' henv hctr hown hrest
        obtain ⟨m, hm⟩ : ∃ m, insL l i e = m := ⟨_, rfl⟩
        have hml : l.length + 1 = m.length := by rw [← hm]; rw [insL_len l i e hil]
        have hfew : fewL m = true := by
          simp only [fewL, mayL, Bool.and_eq_true, decide_eq_true_eq]
          exact ⟨hm ▸ insL_may _ (all_may hch) he, by omega⟩
        have hm1 : m.length ≤ 1000 := by omega
        have htk : List.take m.length (m.map Xt.enc) = m.map Xt.enc := List.take_of_length_le (by simp)
        have hne : m ≠ [] := by intro e0; rw [e0] at hml; simp at hml
        rw [hml]
        rw [hm] at hown
        have a0 : σ'.env 0 = .d (.sl false (l.map Xt.enc)) false := by rw [henv]; simp [dstB]
        have a3 : σ'.env 3 = .rp 3 1 0 0 := by rw [henv]; simp [dstB]
        have a6 : σ'.env 6 = .d (vi i) true := by rw [henv]; simp [dstB]
        have o3 : σ'.own 3 = some (.var 24 1 false [.d (vi e.at') false, .d (vi e.start) false, .d (vi e.len) false, .d (vb e.un) false]) := by rw [hrest 3 (by decide) (by decide) (by decide)]; simp [dstB]
        clear henv hctr hrest
        show evOps _ _ _ _ _ _ _ _ _ _ _
        by_cases hin : i < l.length
        · obtain ⟨f, hf⟩ : ∃ f, l[i]? = some f := ⟨_, List.getElem?_eq_getElem hin⟩
          have hf2 : l[i]'hin = f := by have := hf; rw [List.getElem?_eq_getElem hin] at this; exact Option.some.inj this
          have hinI : (i : Int) < (l.length : Int) := by omega
          by_cases hcl : f.at' < endX e
          · repeat' (first
 | (intro h; first | (exfalso; exact Bool.noConfusion h) | (simp only [decide_eq_true_eq, decide_eq_false_iff_not] at h) | skip)
 | (apply evOps_fin; (case hf => (simp only [finGo, app1]; rfl)); skip)
 | refine WP_seq ?_
 | refine WP_scope ?_
 | refine WP_block ?_
 | refine WP_ret ?_
 | refine WP_skip ?_
 | refine WP_exit ?_
 | (apply WP_region; (case hl => rfl); (case hc => (simp only [put_env', put_own', put_ctr', put_none', setOwn_env', setOwn_own', setOwn_ctr', setCtr_env', setCtr_own', setCtr_ctr', entry, entryEnv, entryOwn, inAV, scAV, inOB]; rfl)); (case hc' => (conv => lhs; simp only [List.size_toArray, List.length_cons, List.length_nil, Nat.zero_add, Nat.reduceAdd, Nat.add_assoc])); skip)
 | (apply WP_draw; (case hl => rfl); (case hds => (simp only [List.map_cons, List.map_nil]; rfl)); (case hc => (simp only [put_env', put_own', put_ctr', put_none', setOwn_env', setOwn_own', setOwn_ctr', setCtr_env', setCtr_own', setCtr_ctr', entry, entryEnv, entryOwn, inAV, scAV, inOB]; rfl)); (case hc' => (conv => lhs; simp only [List.size_toArray, List.length_cons, List.length_nil, Nat.zero_add, Nat.reduceAdd, Nat.add_assoc])); (case hD => rfl); (case hb => kernel_rfl); (case h1 => (simp only [List.take_succ_cons, List.take_zero]; rfl)); (case h2 => (simp only [List.drop_succ_cons, List.drop_zero]; rfl)); (case h3 => (simp only [List.take_succ_cons, List.take_zero]; rfl)); intro had; skip)
 | refine evOps_nil ?_
 | refine evQ_nil ?_
 | (apply evQ_one; (case had => assumption); (case hg => rfl); (case hd => (simp [dstB]; done)); (case h => (simp [evQuiet, evCallQ, known, njk, AV.isJunk, Op.operands, Call.operands, evEff, evStep, evPure, a0, a3, a6, o3, hown, h23, sp23, decX, xt_eta, h25, sp25, decL_enc, hfew, htk, hm1, h29, sp29, List.filter_cons, Xt.enc, hin, hf, hf2, hinI, hcl]; with_reducible rfl)); (case hs => (simp; done)); (case hR => (simp only [List.nil_append, List.cons_append]; rfl)); skip)
 | (apply evQ_yes; (case had => assumption); (case hg => rfl); (case hb => (simp [gval, evEff, dstB, a0, a3, a6, o3, hown, h23, sp23, decX, xt_eta, h25, sp25, decL_enc, hfew, htk, hm1, h29, sp29, List.filter_cons, Xt.enc, hin, hf, hf2, hinI, hcl]; done)); (case hd => (simp [dstB]; done)); (case h => (simp [evQuiet, evCallQ, known, njk, AV.isJunk, Op.operands, Call.operands, evEff, evStep, evPure, a0, a3, a6, o3, hown, h23, sp23, decX, xt_eta, h25, sp25, decL_enc, hfew, htk, hm1, h29, sp29, List.filter_cons, Xt.enc, hin, hf, hf2, hinI, hcl]; with_reducible rfl)); (case hs => (simp; done)); (case hR => (simp only [List.nil_append, List.cons_append]; rfl)); skip)
 | (apply evQ_no; (case had => assumption); (case hg => rfl); (case hb => (simp [gval, evEff, dstB, a0, a3, a6, o3, hown, h23, sp23, decX, xt_eta, h25, sp25, decL_enc, hfew, htk, hm1, h29, sp29, List.filter_cons, Xt.enc, hin, hf, hf2, hinI, hcl]; with_reducible rfl)); (case hne => (simp; done)); (case hd => (simp [dstB]; done)); (case hR => (simp only [List.nil_append, List.cons_append]; rfl)); skip)
 | (apply evQ_split; (case hg => rfl); (case hb => (simp only [List.getElem?_cons_succ, List.getElem?_cons_zero]; rfl)); (case hv => ((fail_if_success (with_reducible exact (rfl : (_ : QR) = (AV.d (.val (.bool true)) _, none)))); (fail_if_success (with_reducible exact (rfl : (_ : QR) = (AV.d (.val (.bool false)) _, none)))); rfl)); (case hT => (simp only [List.set_cons_succ, List.set_cons_zero]; rfl)); (case hF => (simp only [List.set_cons_succ, List.set_cons_zero]; rfl)); skip)
 | (apply evOps_one; (case hg => rfl); (case h => (simp [evStep, evPure, a0, a3, a6, o3, hown, h23, sp23, decX, xt_eta, h25, sp25, decL_enc, hfew, htk, hm1, h29, sp29, List.filter_cons, Xt.enc, hin, hf, hf2, hinI, hcl]; with_reducible rfl)); skip)
 | (apply evOps_yes; (case hg => rfl); (case hb => (simp [gval, dstB, a0, a3, a6, o3, hown, h23, sp23, decX, xt_eta, h25, sp25, decL_enc, hfew, htk, hm1, h29, sp29, List.filter_cons, Xt.enc, hin, hf, hf2, hinI, hcl]; done)); (case h => (simp [evStep, evPure, a0, a3, a6, o3, hown, h23, sp23, decX, xt_eta, h25, sp25, decL_enc, hfew, htk, hm1, h29, sp29, List.filter_cons, Xt.enc, hin, hf, hf2, hinI, hcl]; with_reducible rfl)); skip)
 | (apply evOps_no; (case hg => rfl); (case hb => (simp [gval, dstB, a0, a3, a6, o3, hown, h23, sp23, decX, xt_eta, h25, sp25, decL_enc, hfew, htk, hm1, h29, sp29, List.filter_cons, Xt.enc, hin, hf, hf2, hinI, hcl]; with_reducible rfl)); (case hne => (simp; done)); (case hd => (simp [dstB]; done)); skip)
 | (apply evOps_big; (case hg => rfl); (case hd => (simp [dstB]; done)); (case hb => (simp [evBig, evStep, evPure, a0, a3, a6, o3, hown, h23, sp23, decX, xt_eta, h25, sp25, decL_enc, hfew, htk, hm1, h29, sp29, List.filter_cons, Xt.enc, hin, hf, hf2, hinI, hcl]; with_reducible rfl)); skip)
 | (apply evOps_bigYes; (case hg => rfl); (case hgv => (simp [gval, dstB, a0, a3, a6, o3, hown, h23, sp23, decX, xt_eta, h25, sp25, decL_enc, hfew, htk, hm1, h29, sp29, List.filter_cons, Xt.enc, hin, hf, hf2, hinI, hcl]; done)); (case hd => (simp [dstB]; done)); (case hb => (simp [evBig, evStep, evPure, a0, a3, a6, o3, hown, h23, sp23, decX, xt_eta, h25, sp25, decL_enc, hfew, htk, hm1, h29, sp29, List.filter_cons, Xt.enc, hin, hf, hf2, hinI, hcl]; with_reducible rfl)); skip)
 | (apply evOps_split; (case _hg => rfl); (case _ht => rfl); (case hb => (simp [dstB]; with_reducible rfl)); (case hv => ((fail_if_success (with_reducible exact (rfl : (_ : AV) = AV.d (.val (.bool true)) _))); (fail_if_success (with_reducible exact (rfl : (_ : AV) = AV.d (.val (.bool false)) _))); rfl)); skip)
 | (apply WP_cond; (case hx => (simp [St.eval, dstB, a0, a3, a6, o3, hown, h23, sp23, decX, xt_eta, h25, sp25, decL_enc, hfew, htk, hm1, h29, sp29, List.filter_cons, Xt.enc, hin, hf, hf2, hinI, hcl]; with_reducible rfl)); (case hv => rfl); skip))
            all_goals simp [Fin1, resVals, ownOf, FinList1, FinOne1, FinWr1, nodupB, Try.results9, out9, out29, outErr, hc, he, hi, hm, clashX, hf, hf2, hin, hcl, evStep, evPure]
          · clear hf2
            have hf2 : l[i]'hin = f := by have := hf; rw [List.getElem?_eq_getElem hin] at this; exact Option.some.inj this
            cases ha : apartX m
            · repeat' (first
 | (intro h; first | (exfalso; exact Bool.noConfusion h) | (simp only [decide_eq_true_eq, decide_eq_false_iff_not] at h) | skip)
 | (apply evOps_fin; (case hf => (simp only [finGo, app1]; rfl)); skip)
 | refine WP_seq ?_
 | refine WP_scope ?_
 | refine WP_block ?_
 | refine WP_ret ?_
 | refine WP_skip ?_
 | refine WP_exit ?_
 | (apply WP_region; (case hl => rfl); (case hc => (simp only [put_env', put_own', put_ctr', put_none', setOwn_env', setOwn_own', setOwn_ctr', setCtr_env', setCtr_own', setCtr_ctr', entry, entryEnv, entryOwn, inAV, scAV, inOB]; rfl)); (case hc' => (conv => lhs; simp only [List.size_toArray, List.length_cons, List.length_nil, Nat.zero_add, Nat.reduceAdd, Nat.add_assoc])); skip)
 | (apply WP_draw; (case hl => rfl); (case hds => (simp only [List.map_cons, List.map_nil]; rfl)); (case hc => (simp only [put_env', put_own', put_ctr', put_none', setOwn_env', setOwn_own', setOwn_ctr', setCtr_env', setCtr_own', setCtr_ctr', entry, entryEnv, entryOwn, inAV, scAV, inOB]; rfl)); (case hc' => (conv => lhs; simp only [List.size_toArray, List.length_cons, List.length_nil, Nat.zero_add, Nat.reduceAdd, Nat.add_assoc])); (case hD => rfl); (case hb => kernel_rfl); (case h1 => (simp only [List.take_succ_cons, List.take_zero]; rfl)); (case h2 => (simp only [List.drop_succ_cons, List.drop_zero]; rfl)); (case h3 => (simp only [List.take_succ_cons, List.take_zero]; rfl)); intro had; skip)
 | refine evOps_nil ?_
 | refine evQ_nil ?_
 | (apply evQ_one; (case had => assumption); (case hg => rfl); (case hd => (simp [dstB]; done)); (case h => (simp [evQuiet, evCallQ, known, njk, AV.isJunk, Op.operands, Call.operands, evEff, evStep, evPure, a0, a3, a6, o3, hown, h23, sp23, decX, xt_eta, h25, sp25, decL_enc, hfew, htk, hm1, h29, sp29, List.filter_cons, Xt.enc, ha, hin, hf, hf2, hinI, hcl]; with_reducible rfl)); (case hs => (simp; done)); (case hR => (simp only [List.nil_append, List.cons_append]; rfl)); skip)
 | (apply evQ_yes; (case had => assumption); (case hg => rfl); (case hb => (simp [gval, evEff, dstB, a0, a3, a6, o3, hown, h23, sp23, decX, xt_eta, h25, sp25, decL_enc, hfew, htk, hm1, h29, sp29, List.filter_cons, Xt.enc, ha, hin, hf, hf2, hinI, hcl]; done)); (case hd => (simp [dstB]; done)); (case h => (simp [evQuiet, evCallQ, known, njk, AV.isJunk, Op.operands, Call.operands, evEff, evStep, evPure, a0, a3, a6, o3, hown, h23, sp23, decX, xt_eta, h25, sp25, decL_enc, hfew, htk, hm1, h29, sp29, List.filter_cons, Xt.enc, ha, hin, hf, hf2, hinI, hcl]; with_reducible rfl)); (case hs => (simp; done)); (case hR => (simp only [List.nil_append, List.cons_append]; rfl)); skip)
 | (apply evQ_no; (case had => assumption); (case hg => rfl); (case hb => (simp [gval, evEff, dstB, a0, a3, a6, o3, hown, h23, sp23, decX, xt_eta, h25, sp25, decL_enc, hfew, htk, hm1, h29, sp29, List.filter_cons, Xt.enc, ha, hin, hf, hf2, hinI, hcl]; with_reducible rfl)); (case hne => (simp; done)); (case hd => (simp [dstB]; done)); (case hR => (simp only [List.nil_append, List.cons_append]; rfl)); skip)
 | (apply evQ_split; (case hg => rfl); (case hb => (simp only [List.getElem?_cons_succ, List.getElem?_cons_zero]; rfl)); (case hv => ((fail_if_success (with_reducible exact (rfl : (_ : QR) = (AV.d (.val (.bool true)) _, none)))); (fail_if_success (with_reducible exact (rfl : (_ : QR) = (AV.d (.val (.bool false)) _, none)))); rfl)); (case hT => (simp only [List.set_cons_succ, List.set_cons_zero]; rfl)); (case hF => (simp only [List.set_cons_succ, List.set_cons_zero]; rfl)); skip)
 | (apply evOps_one; (case hg => rfl); (case h => (simp [evStep, evPure, a0, a3, a6, o3, hown, h23, sp23, decX, xt_eta, h25, sp25, decL_enc, hfew, htk, hm1, h29, sp29, List.filter_cons, Xt.enc, ha, hin, hf, hf2, hinI, hcl]; with_reducible rfl)); skip)
 | (apply evOps_yes; (case hg => rfl); (case hb => (simp [gval, dstB, a0, a3, a6, o3, hown, h23, sp23, decX, xt_eta, h25, sp25, decL_enc, hfew, htk, hm1, h29, sp29, List.filter_cons, Xt.enc, ha, hin, hf, hf2, hinI, hcl]; done)); (case h => (simp [evStep, evPure, a0, a3, a6, o3, hown, h23, sp23, decX, xt_eta, h25, sp25, decL_enc, hfew, htk, hm1, h29, sp29, List.filter_cons, Xt.enc, ha, hin, hf, hf2, hinI, hcl]; with_reducible rfl)); skip)
 | (apply evOps_no; (case hg => rfl); (case hb => (simp [gval, dstB, a0, a3, a6, o3, hown, h23, sp23, decX, xt_eta, h25, sp25, decL_enc, hfew, htk, hm1, h29, sp29, List.filter_cons, Xt.enc, ha, hin, hf, hf2, hinI, hcl]; with_reducible rfl)); (case hne => (simp; done)); (case hd => (simp [dstB]; done)); skip)
 | (apply evOps_big; (case hg => rfl); (case hd => (simp [dstB]; done)); (case hb => (simp [evBig, evStep, evPure, a0, a3, a6, o3, hown, h23, sp23, decX, xt_eta, h25, sp25, decL_enc, hfew, htk, hm1, h29, sp29, List.filter_cons, Xt.enc, ha, hin, hf, hf2, hinI, hcl]; with_reducible rfl)); skip)
 | (apply evOps_bigYes; (case hg => rfl); (case hgv => (simp [gval, dstB, a0, a3, a6, o3, hown, h23, sp23, decX, xt_eta, h25, sp25, decL_enc, hfew, htk, hm1, h29, sp29, List.filter_cons, Xt.enc, ha, hin, hf, hf2, hinI, hcl]; done)); (case hd => (simp [dstB]; done)); (case hb => (simp [evBig, evStep, evPure, a0, a3, a6, o3, hown, h23, sp23, decX, xt_eta, h25, sp25, decL_enc, hfew, htk, hm1, h29, sp29, List.filter_cons, Xt.enc, ha, hin, hf, hf2, hinI, hcl]; with_reducible rfl)); skip)
 | (apply evOps_split; (case _hg => rfl); (case _ht => rfl); (case hb => (simp [dstB]; with_reducible rfl)); (case hv => ((fail_if_success (with_reducible exact (rfl : (_ : AV) = AV.d (.val (.bool true)) _))); (fail_if_success (with_reducible exact (rfl : (_ : AV) = AV.d (.val (.bool false)) _))); rfl)); skip)
 | (apply WP_cond; (case hx => (simp [St.eval, dstB, a0, a3, a6, o3, hown, h23, sp23, decX, xt_eta, h25, sp25, decL_enc, hfew, htk, hm1, h29, sp29, List.filter_cons, Xt.enc, ha, hin, hf, hf2, hinI, hcl]; with_reducible rfl)); (case hv => rfl); skip))
              all_goals simp [Fin1, resVals, ownOf, FinList1, FinOne1, FinWr1, nodupB, Try.results9, out9, out29, outErr, hc, he, hi, hm, clashX, ha, hf, hf2, hin, hcl, evStep, evPure]
            · by_cases h60 : (mergeX m).length > 60
              · repeat' (first
 | (intro h; first | (exfalso; exact Bool.noConfusion h) | (simp only [decide_eq_true_eq, decide_eq_false_iff_not] at h) | skip)
 | (apply evOps_fin; (case hf => (simp only [finGo, app1]; rfl)); skip)
 | refine WP_seq ?_
 | refine WP_scope ?_
 | refine WP_block ?_
 | refine WP_ret ?_
 | refine WP_skip ?_
 | refine WP_exit ?_
 | (apply WP_region; (case hl => rfl); (case hc => (simp only [put_env', put_own', put_ctr', put_none', setOwn_env', setOwn_own', setOwn_ctr', setCtr_env', setCtr_own', setCtr_ctr', entry, entryEnv, entryOwn, inAV, scAV, inOB]; rfl)); (case hc' => (conv => lhs; simp only [List.size_toArray, List.length_cons, List.length_nil, Nat.zero_add, Nat.reduceAdd, Nat.add_assoc])); skip)
 | (apply WP_draw; (case hl => rfl); (case hds => (simp only [List.map_cons, List.map_nil]; rfl)); (case hc => (simp only [put_env', put_own', put_ctr', put_none', setOwn_env', setOwn_own', setOwn_ctr', setCtr_env', setCtr_own', setCtr_ctr', entry, entryEnv, entryOwn, inAV, scAV, inOB]; rfl)); (case hc' => (conv => lhs; simp only [List.size_toArray, List.length_cons, List.length_nil, Nat.zero_add, Nat.reduceAdd, Nat.add_assoc])); (case hD => rfl); (case hb => kernel_rfl); (case h1 => (simp only [List.take_succ_cons, List.take_zero]; rfl)); (case h2 => (simp only [List.drop_succ_cons, List.drop_zero]; rfl)); (case h3 => (simp only [List.take_succ_cons, List.take_zero]; rfl)); intro had; skip)
 | refine evOps_nil ?_
 | refine evQ_nil ?_
 | (apply evQ_one; (case had => assumption); (case hg => rfl); (case hd => (simp [dstB]; done)); (case h => (simp [evQuiet, evCallQ, known, njk, AV.isJunk, Op.operands, Call.operands, evEff, evStep, evPure, a0, a3, a6, o3, hown, h23, sp23, decX, xt_eta, h25, sp25, decL_enc, hfew, htk, hm1, h29, sp29, List.filter_cons, Xt.enc, ha, h60, hne, hin, hf, hf2, hinI, hcl]; with_reducible rfl)); (case hs => (simp; done)); (case hR => (simp only [List.nil_append, List.cons_append]; rfl)); skip)
 | (apply evQ_yes; (case had => assumption); (case hg => rfl); (case hb => (simp [gval, evEff, dstB, a0, a3, a6, o3, hown, h23, sp23, decX, xt_eta, h25, sp25, decL_enc, hfew, htk, hm1, h29, sp29, List.filter_cons, Xt.enc, ha, h60, hne, hin, hf, hf2, hinI, hcl]; done)); (case hd => (simp [dstB]; done)); (case h => (simp [evQuiet, evCallQ, known, njk, AV.isJunk, Op.operands, Call.operands, evEff, evStep, evPure, a0, a3, a6, o3, hown, h23, sp23, decX, xt_eta, h25, sp25, decL_enc, hfew, htk, hm1, h29, sp29, List.filter_cons, Xt.enc, ha, h60, hne, hin, hf, hf2, hinI, hcl]; with_reducible rfl)); (case hs => (simp; done)); (case hR => (simp only [List.nil_append, List.cons_append]; rfl)); skip)
 | (apply evQ_no; (case had => assumption); (case hg => rfl); (case hb => (simp [gval, evEff, dstB, a0, a3, a6, o3, hown, h23, sp23, decX, xt_eta, h25, sp25, decL_enc, hfew, htk, hm1, h29, sp29, List.filter_cons, Xt.enc, ha, h60, hne, hin, hf, hf2, hinI, hcl]; with_reducible rfl)); (case hne => (simp; done)); (case hd => (simp [dstB]; done)); (case hR => (simp only [List.nil_append, List.cons_append]; rfl)); skip)
 | (apply evQ_split; (case hg => rfl); (case hb => (simp only [List.getElem?_cons_succ, List.getElem?_cons_zero]; rfl)); (case hv => ((fail_if_success (with_reducible exact (rfl : (_ : QR) = (AV.d (.val (.bool true)) _, none)))); (fail_if_success (with_reducible exact (rfl : (_ : QR) = (AV.d (.val (.bool false)) _, none)))); rfl)); (case hT => (simp only [List.set_cons_succ, List.set_cons_zero]; rfl)); (case hF => (simp only [List.set_cons_succ, List.set_cons_zero]; rfl)); skip)
 | (apply evOps_one; (case hg => rfl); (case h => (simp [evStep, evPure, a0, a3, a6, o3, hown, h23, sp23, decX, xt_eta, h25, sp25, decL_enc, hfew, htk, hm1, h29, sp29, List.filter_cons, Xt.enc, ha, h60, hne, hin, hf, hf2, hinI, hcl]; with_reducible rfl)); skip)
 | (apply evOps_yes; (case hg => rfl); (case hb => (simp [gval, dstB, a0, a3, a6, o3, hown, h23, sp23, decX, xt_eta, h25, sp25, decL_enc, hfew, htk, hm1, h29, sp29, List.filter_cons, Xt.enc, ha, h60, hne, hin, hf, hf2, hinI, hcl]; done)); (case h => (simp [evStep, evPure, a0, a3, a6, o3, hown, h23, sp23, decX, xt_eta, h25, sp25, decL_enc, hfew, htk, hm1, h29, sp29, List.filter_cons, Xt.enc, ha, h60, hne, hin, hf, hf2, hinI, hcl]; with_reducible rfl)); skip)
 | (apply evOps_no; (case hg => rfl); (case hb => (simp [gval, dstB, a0, a3, a6, o3, hown, h23, sp23, decX, xt_eta, h25, sp25, decL_enc, hfew, htk, hm1, h29, sp29, List.filter_cons, Xt.enc, ha, h60, hne, hin, hf, hf2, hinI, hcl]; with_reducible rfl)); (case hne => (simp; done)); (case hd => (simp [dstB]; done)); skip)
 | (apply evOps_big; (case hg => rfl); (case hd => (simp [dstB]; done)); (case hb => (simp [evBig, evStep, evPure, a0, a3, a6, o3, hown, h23, sp23, decX, xt_eta, h25, sp25, decL_enc, hfew, htk, hm1, h29, sp29, List.filter_cons, Xt.enc, ha, h60, hne, hin, hf, hf2, hinI, hcl]; with_reducible rfl)); skip)
 | (apply evOps_bigYes; (case hg => rfl); (case hgv => (simp [gval, dstB, a0, a3, a6, o3, hown, h23, sp23, decX, xt_eta, h25, sp25, decL_enc, hfew, htk, hm1, h29, sp29, List.filter_cons, Xt.enc, ha, h60, hne, hin, hf, hf2, hinI, hcl]; done)); (case hd => (simp [dstB]; done)); (case hb => (simp [evBig, evStep, evPure, a0, a3, a6, o3, hown, h23, sp23, decX, xt_eta, h25, sp25, decL_enc, hfew, htk, hm1, h29, sp29, List.filter_cons, Xt.enc, ha, h60, hne, hin, hf, hf2, hinI, hcl]; with_reducible rfl)); skip)
 | (apply evOps_split; (case _hg => rfl); (case _ht => rfl); (case hb => (simp [dstB]; with_reducible rfl)); (case hv => ((fail_if_success (with_reducible exact (rfl : (_ : AV) = AV.d (.val (.bool true)) _))); (fail_if_success (with_reducible exact (rfl : (_ : AV) = AV.d (.val (.bool false)) _))); rfl)); skip)
 | (apply WP_cond; (case hx => (simp [St.eval, dstB, a0, a3, a6, o3, hown, h23, sp23, decX, xt_eta, h25, sp25, decL_enc, hfew, htk, hm1, h29, sp29, List.filter_cons, Xt.enc, ha, h60, hne, hin, hf, hf2, hinI, hcl]; with_reducible rfl)); (case hv => rfl); skip))
                all_goals simp [Fin1, resVals, ownOf, FinList1, FinOne1, FinWr1, nodupB, Try.results9, out9, out29, outErr, hc, he, hi, hm, clashX, ha, h60, hne, hf, hf2, hin, hcl, hown, valRow_enc, evStep, evPure]
              · repeat' (first
 | (intro h; first | (exfalso; exact Bool.noConfusion h) | (simp only [decide_eq_true_eq, decide_eq_false_iff_not] at h) | skip)
 | (apply evOps_fin; (case hf => (simp only [finGo, app1]; rfl)); skip)
 | refine WP_seq ?_
 | refine WP_scope ?_
 | refine WP_block ?_
 | refine WP_ret ?_
 | refine WP_skip ?_
 | refine WP_exit ?_
 | (apply WP_region; (case hl => rfl); (case hc => (simp only [put_env', put_own', put_ctr', put_none', setOwn_env', setOwn_own', setOwn_ctr', setCtr_env', setCtr_own', setCtr_ctr', entry, entryEnv, entryOwn, inAV, scAV, inOB]; rfl)); (case hc' => (conv => lhs; simp only [List.size_toArray, List.length_cons, List.length_nil, Nat.zero_add, Nat.reduceAdd, Nat.add_assoc])); skip)
 | (apply WP_draw; (case hl => rfl); (case hds => (simp only [List.map_cons, List.map_nil]; rfl)); (case hc => (simp only [put_env', put_own', put_ctr', put_none', setOwn_env', setOwn_own', setOwn_ctr', setCtr_env', setCtr_own', setCtr_ctr', entry, entryEnv, entryOwn, inAV, scAV, inOB]; rfl)); (case hc' => (conv => lhs; simp only [List.size_toArray, List.length_cons, List.length_nil, Nat.zero_add, Nat.reduceAdd, Nat.add_assoc])); (case hD => rfl); (case hb => kernel_rfl); (case h1 => (simp only [List.take_succ_cons, List.take_zero]; rfl)); (case h2 => (simp only [List.drop_succ_cons, List.drop_zero]; rfl)); (case h3 => (simp only [List.take_succ_cons, List.take_zero]; rfl)); intro had; skip)
 | refine evOps_nil ?_
 | refine evQ_nil ?_
 | (apply evQ_one; (case had => assumption); (case hg => rfl); (case hd => (simp [dstB]; done)); (case h => (simp [evQuiet, evCallQ, known, njk, AV.isJunk, Op.operands, Call.operands, evEff, evStep, evPure, a0, a3, a6, o3, hown, h23, sp23, decX, xt_eta, h25, sp25, decL_enc, hfew, htk, hm1, h29, sp29, List.filter_cons, Xt.enc, ha, h60, hne, hin, hf, hf2, hinI, hcl]; with_reducible rfl)); (case hs => (simp; done)); (case hR => (simp only [List.nil_append, List.cons_append]; rfl)); skip)
 | (apply evQ_yes; (case had => assumption); (case hg => rfl); (case hb => (simp [gval, evEff, dstB, a0, a3, a6, o3, hown, h23, sp23, decX, xt_eta, h25, sp25, decL_enc, hfew, htk, hm1, h29, sp29, List.filter_cons, Xt.enc, ha, h60, hne, hin, hf, hf2, hinI, hcl]; done)); (case hd => (simp [dstB]; done)); (case h => (simp [evQuiet, evCallQ, known, njk, AV.isJunk, Op.operands, Call.operands, evEff, evStep, evPure, a0, a3, a6, o3, hown, h23, sp23, decX, xt_eta, h25, sp25, decL_enc, hfew, htk, hm1, h29, sp29, List.filter_cons, Xt.enc, ha, h60, hne, hin, hf, hf2, hinI, hcl]; with_reducible rfl)); (case hs => (simp; done)); (case hR => (simp only [List.nil_append, List.cons_append]; rfl)); skip)
 | (apply evQ_no; (case had => assumption); (case hg => rfl); (case hb => (simp [gval, evEff, dstB, a0, a3, a6, o3, hown, h23, sp23, decX, xt_eta, h25, sp25, decL_enc, hfew, htk, hm1, h29, sp29, List.filter_cons, Xt.enc, ha, h60, hne, hin, hf, hf2, hinI, hcl]; with_reducible rfl)); (case hne => (simp; done)); (case hd => (simp [dstB]; done)); (case hR => (simp only [List.nil_append, List.cons_append]; rfl)); skip)
 | (apply evQ_split; (case hg => rfl); (case hb => (simp only [List.getElem?_cons_succ, List.getElem?_cons_zero]; rfl)); (case hv => ((fail_if_success (with_reducible exact (rfl : (_ : QR) = (AV.d (.val (.bool true)) _, none)))); (fail_if_success (with_reducible exact (rfl : (_ : QR) = (AV.d (.val (.bool false)) _, none)))); rfl)); (case hT => (simp only [List.set_cons_succ, List.set_cons_zero]; rfl)); (case hF => (simp only [List.set_cons_succ, List.set_cons_zero]; rfl)); skip)
 | (apply evOps_one; (case hg => rfl); (case h => (simp [evStep, evPure, a0, a3, a6, o3, hown, h23, sp23, decX, xt_eta, h25, sp25, decL_enc, hfew, htk, hm1, h29, sp29, List.filter_cons, Xt.enc, ha, h60, hne, hin, hf, hf2, hinI, hcl]; with_reducible rfl)); skip)
 | (apply evOps_yes; (case hg => rfl); (case hb => (simp [gval, dstB, a0, a3, a6, o3, hown, h23, sp23, decX, xt_eta, h25, sp25, decL_enc, hfew, htk, hm1, h29, sp29, List.filter_cons, Xt.enc, ha, h60, hne, hin, hf, hf2, hinI, hcl]; done)); (case h => (simp [evStep, evPure, a0, a3, a6, o3, hown, h23, sp23, decX, xt_eta, h25, sp25, decL_enc, hfew, htk, hm1, h29, sp29, List.filter_cons, Xt.enc, ha, h60, hne, hin, hf, hf2, hinI, hcl]; with_reducible rfl)); skip)
 | (apply evOps_no; (case hg => rfl); (case hb => (simp [gval, dstB, a0, a3, a6, o3, hown, h23, sp23, decX, xt_eta, h25, sp25, decL_enc, hfew, htk, hm1, h29, sp29, List.filter_cons, Xt.enc, ha, h60, hne, hin, hf, hf2, hinI, hcl]; with_reducible rfl)); (case hne => (simp; done)); (case hd => (simp [dstB]; done)); skip)
 | (apply evOps_big; (case hg => rfl); (case hd => (simp [dstB]; done)); (case hb => (simp [evBig, evStep, evPure, a0, a3, a6, o3, hown, h23, sp23, decX, xt_eta, h25, sp25, decL_enc, hfew, htk, hm1, h29, sp29, List.filter_cons, Xt.enc, ha, h60, hne, hin, hf, hf2, hinI, hcl]; with_reducible rfl)); skip)
 | (apply evOps_bigYes; (case hg => rfl); (case hgv => (simp [gval, dstB, a0, a3, a6, o3, hown, h23, sp23, decX, xt_eta, h25, sp25, decL_enc, hfew, htk, hm1, h29, sp29, List.filter_cons, Xt.enc, ha, h60, hne, hin, hf, hf2, hinI, hcl]; done)); (case hd => (simp [dstB]; done)); (case hb => (simp [evBig, evStep, evPure, a0, a3, a6, o3, hown, h23, sp23, decX, xt_eta, h25, sp25, decL_enc, hfew, htk, hm1, h29, sp29, List.filter_cons, Xt.enc, ha, h60, hne, hin, hf, hf2, hinI, hcl]; with_reducible rfl)); skip)
 | (apply evOps_split; (case _hg => rfl); (case _ht => rfl); (case hb => (simp [dstB]; with_reducible rfl)); (case hv => ((fail_if_success (with_reducible exact (rfl : (_ : AV) = AV.d (.val (.bool true)) _))); (fail_if_success (with_reducible exact (rfl : (_ : AV) = AV.d (.val (.bool false)) _))); rfl)); skip)
 | (apply WP_cond; (case hx => (simp [St.eval, dstB, a0, a3, a6, o3, hown, h23, sp23, decX, xt_eta, h25, sp25, decL_enc, hfew, htk, hm1, h29, sp29, List.filter_cons, Xt.enc, ha, h60, hne, hin, hf, hf2, hinI, hcl]; with_reducible rfl)); (case hv => rfl); skip))
                all_goals simp [Fin1, resVals, ownOf, FinList1, FinOne1, FinWr1, nodupB, Try.results9, out9, out29, outErr, hc, he, hi, hm, clashX, ha, h60, hne, hf, hf2, hin, hcl, hown, valRow_enc, evStep, evPure]
        · have hinI : ¬ (i : Int) < (l.length : Int) := by omega
          have hf : l[i]? = none := List.getElem?_eq_none (by omega)
          cases ha : apartX m
          · repeat' (first
 | (intro h; first | (exfalso; exact Bool.noConfusion h) | (simp only [decide_eq_true_eq, decide_eq_false_iff_not] at h) | skip)
 | (apply evOps_fin; (case hf => (simp only [finGo, app1]; rfl)); skip)
 | refine WP_seq ?_
 | refine WP_scope ?_
 | refine WP_block ?_
 | refine WP_ret ?_
 | refine WP_skip ?_
 | refine WP_exit ?_
 | (apply WP_region; (case hl => rfl); (case hc => (simp only [put_env', put_own', put_ctr', put_none', setOwn_env', setOwn_own', setOwn_ctr', setCtr_env', setCtr_own', setCtr_ctr', entry, entryEnv, entryOwn, inAV, scAV, inOB]; rfl)); (case hc' => (conv => lhs; simp only [List.size_toArray, List.length_cons, List.length_nil, Nat.zero_add, Nat.reduceAdd, Nat.add_assoc])); skip)
 | (apply WP_draw; (case hl => rfl); (case hds => (simp only [List.map_cons, List.map_nil]; rfl)); (case hc => (simp only [put_env', put_own', put_ctr', put_none', setOwn_env', setOwn_own', setOwn_ctr', setCtr_env', setCtr_own', setCtr_ctr', entry, entryEnv, entryOwn, inAV, scAV, inOB]; rfl)); (case hc' => (conv => lhs; simp only [List.size_toArray, List.length_cons, List.length_nil, Nat.zero_add, Nat.reduceAdd, Nat.add_assoc])); (case hD => rfl); (case hb => kernel_rfl); (case h1 => (simp only [List.take_succ_cons, List.take_zero]; rfl)); (case h2 => (simp only [List.drop_succ_cons, List.drop_zero]; rfl)); (case h3 => (simp only [List.take_succ_cons, List.take_zero]; rfl)); intro had; skip)
 | refine evOps_nil ?_
 | refine evQ_nil ?_
 | (apply evQ_one; (case had => assumption); (case hg => rfl); (case hd => (simp [dstB]; done)); (case h => (simp [evQuiet, evCallQ, known, njk, AV.isJunk, Op.operands, Call.operands, evEff, evStep, evPure, a0, a3, a6, o3, hown, h23, sp23, decX, xt_eta, h25, sp25, decL_enc, hfew, htk, hm1, h29, sp29, List.filter_cons, Xt.enc, ha, hin, hf, hinI]; with_reducible rfl)); (case hs => (simp; done)); (case hR => (simp only [List.nil_append, List.cons_append]; rfl)); skip)
 | (apply evQ_yes; (case had => assumption); (case hg => rfl); (case hb => (simp [gval, evEff, dstB, a0, a3, a6, o3, hown, h23, sp23, decX, xt_eta, h25, sp25, decL_enc, hfew, htk, hm1, h29, sp29, List.filter_cons, Xt.enc, ha, hin, hf, hinI]; done)); (case hd => (simp [dstB]; done)); (case h => (simp [evQuiet, evCallQ, known, njk, AV.isJunk, Op.operands, Call.operands, evEff, evStep, evPure, a0, a3, a6, o3, hown, h23, sp23, decX, xt_eta, h25, sp25, decL_enc, hfew, htk, hm1, h29, sp29, List.filter_cons, Xt.enc, ha, hin, hf, hinI]; with_reducible rfl)); (case hs => (simp; done)); (case hR => (simp only [List.nil_append, List.cons_append]; rfl)); skip)
 | (apply evQ_no; (case had => assumption); (case hg => rfl); (case hb => (simp [gval, evEff, dstB, a0, a3, a6, o3, hown, h23, sp23, decX, xt_eta, h25, sp25, decL_enc, hfew, htk, hm1, h29, sp29, List.filter_cons, Xt.enc, ha, hin, hf, hinI]; with_reducible rfl)); (case hne => (simp; done)); (case hd => (simp [dstB]; done)); (case hR => (simp only [List.nil_append, List.cons_append]; rfl)); skip)
 | (apply evQ_split; (case hg => rfl); (case hb => (simp only [List.getElem?_cons_succ, List.getElem?_cons_zero]; rfl)); (case hv => ((fail_if_success (with_reducible exact (rfl : (_ : QR) = (AV.d (.val (.bool true)) _, none)))); (fail_if_success (with_reducible exact (rfl : (_ : QR) = (AV.d (.val (.bool false)) _, none)))); rfl)); (case hT => (simp only [List.set_cons_succ, List.set_cons_zero]; rfl)); (case hF => (simp only [List.set_cons_succ, List.set_cons_zero]; rfl)); skip)
 | (apply evOps_one; (case hg => rfl); (case h => (simp [evStep, evPure, a0, a3, a6, o3, hown, h23, sp23, decX, xt_eta, h25, sp25, decL_enc, hfew, htk, hm1, h29, sp29, List.filter_cons, Xt.enc, ha, hin, hf, hinI]; with_reducible rfl)); skip)
 | (apply evOps_yes; (case hg => rfl); (case hb => (simp [gval, dstB, a0, a3, a6, o3, hown, h23, sp23, decX, xt_eta, h25, sp25, decL_enc, hfew, htk, hm1, h29, sp29, List.filter_cons, Xt.enc, ha, hin, hf, hinI]; done)); (case h => (simp [evStep, evPure, a0, a3, a6, o3, hown, h23, sp23, decX, xt_eta, h25, sp25, decL_enc, hfew, htk, hm1, h29, sp29, List.filter_cons, Xt.enc, ha, hin, hf, hinI]; with_reducible rfl)); skip)
 | (apply evOps_no; (case hg => rfl); (case hb => (simp [gval, dstB, a0, a3, a6, o3, hown, h23, sp23, decX, xt_eta, h25, sp25, decL_enc, hfew, htk, hm1, h29, sp29, List.filter_cons, Xt.enc, ha, hin, hf, hinI]; with_reducible rfl)); (case hne => (simp; done)); (case hd => (simp [dstB]; done)); skip)
 | (apply evOps_big; (case hg => rfl); (case hd => (simp [dstB]; done)); (case hb => (simp [evBig, evStep, evPure, a0, a3, a6, o3, hown, h23, sp23, decX, xt_eta, h25, sp25, decL_enc, hfew, htk, hm1, h29, sp29, List.filter_cons, Xt.enc, ha, hin, hf, hinI]; with_reducible rfl)); skip)
 | (apply evOps_bigYes; (case hg => rfl); (case hgv => (simp [gval, dstB, a0, a3, a6, o3, hown, h23, sp23, decX, xt_eta, h25, sp25, decL_enc, hfew, htk, hm1, h29, sp29, List.filter_cons, Xt.enc, ha, hin, hf, hinI]; done)); (case hd => (simp [dstB]; done)); (case hb => (simp [evBig, evStep, evPure, a0, a3, a6, o3, hown, h23, sp23, decX, xt_eta, h25, sp25, decL_enc, hfew, htk, hm1, h29, sp29, List.filter_cons, Xt.enc, ha, hin, hf, hinI]; with_reducible rfl)); skip)
 | (apply evOps_split; (case _hg => rfl); (case _ht => rfl); (case hb => (simp [dstB]; with_reducible rfl)); (case hv => ((fail_if_success (with_reducible exact (rfl : (_ : AV) = AV.d (.val (.bool true)) _))); (fail_if_success (with_reducible exact (rfl : (_ : AV) = AV.d (.val (.bool false)) _))); rfl)); skip)
 | (apply WP_cond; (case hx => (simp [St.eval, dstB, a0, a3, a6, o3, hown, h23, sp23, decX, xt_eta, h25, sp25, decL_enc, hfew, htk, hm1, h29, sp29, List.filter_cons, Xt.enc, ha, hin, hf, hinI]; with_reducible rfl)); (case hv => rfl); skip))
            all_goals simp [Fin1, resVals, ownOf, FinList1, FinOne1, FinWr1, nodupB, Try.results9, out9, out29, outErr, hc, he, hi, hm, clashX, ha, hf, hin, evStep, evPure]
          · by_cases h60 : (mergeX m).length > 60
            · repeat' (first
 | (intro h; first | (exfalso; exact Bool.noConfusion h) | (simp only [decide_eq_true_eq, decide_eq_false_iff_not] at h) | skip)
 | (apply evOps_fin; (case hf => (simp only [finGo, app1]; rfl)); skip)
 | refine WP_seq ?_
 | refine WP_scope ?_
 | refine WP_block ?_
 | refine WP_ret ?_
 | refine WP_skip ?_
 | refine WP_exit ?_
 | (apply WP_region; (case hl => rfl); (case hc => (simp only [put_env', put_own', put_ctr', put_none', setOwn_env', setOwn_own', setOwn_ctr', setCtr_env', setCtr_own', setCtr_ctr', entry, entryEnv, entryOwn, inAV, scAV, inOB]; rfl)); (case hc' => (conv => lhs; simp only [List.size_toArray, List.length_cons, List.length_nil, Nat.zero_add, Nat.reduceAdd, Nat.add_assoc])); skip)
 | (apply WP_draw; (case hl => rfl); (case hds => (simp only [List.map_cons, List.map_nil]; rfl)); (case hc => (simp only [put_env', put_own', put_ctr', put_none', setOwn_env', setOwn_own', setOwn_ctr', setCtr_env', setCtr_own', setCtr_ctr', entry, entryEnv, entryOwn, inAV, scAV, inOB]; rfl)); (case hc' => (conv => lhs; simp only [List.size_toArray, List.length_cons, List.length_nil, Nat.zero_add, Nat.reduceAdd, Nat.add_assoc])); (case hD => rfl); (case hb => kernel_rfl); (case h1 => (simp only [List.take_succ_cons, List.take_zero]; rfl)); (case h2 => (simp only [List.drop_succ_cons, List.drop_zero]; rfl)); (case h3 => (simp only [List.take_succ_cons, List.take_zero]; rfl)); intro had; skip)
 | refine evOps_nil ?_
 | refine evQ_nil ?_
 | (apply evQ_one; (case had => assumption); (case hg => rfl); (case hd => (simp [dstB]; done)); (case h => (simp [evQuiet, evCallQ, known, njk, AV.isJunk, Op.operands, Call.operands, evEff, evStep, evPure, a0, a3, a6, o3, hown, h23, sp23, decX, xt_eta, h25, sp25, decL_enc, hfew, htk, hm1, h29, sp29, List.filter_cons, Xt.enc, ha, h60, hne, hin, hf, hinI]; with_reducible rfl)); (case hs => (simp; done)); (case hR => (simp only [List.nil_append, List.cons_append]; rfl)); skip)
 | (apply evQ_yes; (case had => assumption); (case hg => rfl); (case hb => (simp [gval, evEff, dstB, a0, a3, a6, o3, hown, h23, sp23, decX, xt_eta, h25, sp25, decL_enc, hfew, htk, hm1, h29, sp29, List.filter_cons, Xt.enc, ha, h60, hne, hin, hf, hinI]; done)); (case hd => (simp [dstB]; done)); (case h => (simp [evQuiet, evCallQ, known, njk, AV.isJunk, Op.operands, Call.operands, evEff, evStep, evPure, a0, a3, a6, o3, hown, h23, sp23, decX, xt_eta, h25, sp25, decL_enc, hfew, htk, hm1, h29, sp29, List.filter_cons, Xt.enc, ha, h60, hne, hin, hf, hinI]; with_reducible rfl)); (case hs => (simp; done)); (case hR => (simp only [List.nil_append, List.cons_append]; rfl)); skip)
 | (apply evQ_no; (case had => assumption); (case hg => rfl); (case hb => (simp [gval, evEff, dstB, a0, a3, a6, o3, hown, h23, sp23, decX, xt_eta, h25, sp25, decL_enc, hfew, htk, hm1, h29, sp29, List.filter_cons, Xt.enc, ha, h60, hne, hin, hf, hinI]; with_reducible rfl)); (case hne => (simp; done)); (case hd => (simp [dstB]; done)); (case hR => (simp only [List.nil_append, List.cons_append]; rfl)); skip)
 | (apply evQ_split; (case hg => rfl); (case hb => (simp only [List.getElem?_cons_succ, List.getElem?_cons_zero]; rfl)); (case hv => ((fail_if_success (with_reducible exact (rfl : (_ : QR) = (AV.d (.val (.bool true)) _, none)))); (fail_if_success (with_reducible exact (rfl : (_ : QR) = (AV.d (.val (.bool false)) _, none)))); rfl)); (case hT => (simp only [List.set_cons_succ, List.set_cons_zero]; rfl)); (case hF => (simp only [List.set_cons_succ, List.set_cons_zero]; rfl)); skip)
 | (apply evOps_one; (case hg => rfl); (case h => (simp [evStep, evPure, a0, a3, a6, o3, hown, h23, sp23, decX, xt_eta, h25, sp25, decL_enc, hfew, htk, hm1, h29, sp29, List.filter_cons, Xt.enc, ha, h60, hne, hin, hf, hinI]; with_reducible rfl)); skip)
 | (apply evOps_yes; (case hg => rfl); (case hb => (simp [gval, dstB, a0, a3, a6, o3, hown, h23, sp23, decX, xt_eta, h25, sp25, decL_enc, hfew, htk, hm1, h29, sp29, List.filter_cons, Xt.enc, ha, h60, hne, hin, hf, hinI]; done)); (case h => (simp [evStep, evPure, a0, a3, a6, o3, hown, h23, sp23, decX, xt_eta, h25, sp25, decL_enc, hfew, htk, hm1, h29, sp29, List.filter_cons, Xt.enc, ha, h60, hne, hin, hf, hinI]; with_reducible rfl)); skip)
 | (apply evOps_no; (case hg => rfl); (case hb => (simp [gval, dstB, a0, a3, a6, o3, hown, h23, sp23, decX, xt_eta, h25, sp25, decL_enc, hfew, htk, hm1, h29, sp29, List.filter_cons, Xt.enc, ha, h60, hne, hin, hf, hinI]; with_reducible rfl)); (case hne => (simp; done)); (case hd => (simp [dstB]; done)); skip)
 | (apply evOps_big; (case hg => rfl); (case hd => (simp [dstB]; done)); (case hb => (simp [evBig, evStep, evPure, a0, a3, a6, o3, hown, h23, sp23, decX, xt_eta, h25, sp25, decL_enc, hfew, htk, hm1, h29, sp29, List.filter_cons, Xt.enc, ha, h60, hne, hin, hf, hinI]; with_reducible rfl)); skip)
 | (apply evOps_bigYes; (case hg => rfl); (case hgv => (simp [gval, dstB, a0, a3, a6, o3, hown, h23, sp23, decX, xt_eta, h25, sp25, decL_enc, hfew, htk, hm1, h29, sp29, List.filter_cons, Xt.enc, ha, h60, hne, hin, hf, hinI]; done)); (case hd => (simp [dstB]; done)); (case hb => (simp [evBig, evStep, evPure, a0, a3, a6, o3, hown, h23, sp23, decX, xt_eta, h25, sp25, decL_enc, hfew, htk, hm1, h29, sp29, List.filter_cons, Xt.enc, ha, h60, hne, hin, hf, hinI]; with_reducible rfl)); skip)
 | (apply evOps_split; (case _hg => rfl); (case _ht => rfl); (case hb => (simp [dstB]; with_reducible rfl)); (case hv => ((fail_if_success (with_reducible exact (rfl : (_ : AV) = AV.d (.val (.bool true)) _))); (fail_if_success (with_reducible exact (rfl : (_ : AV) = AV.d (.val (.bool false)) _))); rfl)); skip)
 | (apply WP_cond; (case hx => (simp [St.eval, dstB, a0, a3, a6, o3, hown, h23, sp23, decX, xt_eta, h25, sp25, decL_enc, hfew, htk, hm1, h29, sp29, List.filter_cons, Xt.enc, ha, h60, hne, hin, hf, hinI]; with_reducible rfl)); (case hv => rfl); skip))
              all_goals simp [Fin1, resVals, ownOf, FinList1, FinOne1, FinWr1, nodupB, Try.results9, out9, out29, outErr, hc, he, hi, hm, clashX, ha, h60, hne, hf, hin, hown, valRow_enc, evStep, evPure]
            · repeat' (first
 | (intro h; first | (exfalso; exact Bool.noConfusion h) | (simp only [decide_eq_true_eq, decide_eq_false_iff_not] at h) | skip)
 | (apply evOps_fin; (case hf => (simp only [finGo, app1]; rfl)); skip)
 | refine WP_seq ?_
 | refine WP_scope ?_
 | refine WP_block ?_
 | refine WP_ret ?_
 | refine WP_skip ?_
 | refine WP_exit ?_
 | (apply WP_region; (case hl => rfl); (case hc => (simp only [put_env', put_own', put_ctr', put_none', setOwn_env', setOwn_own', setOwn_ctr', setCtr_env', setCtr_own', setCtr_ctr', entry, entryEnv, entryOwn, inAV, scAV, inOB]; rfl)); (case hc' => (conv => lhs; simp only [List.size_toArray, List.length_cons, List.length_nil, Nat.zero_add, Nat.reduceAdd, Nat.add_assoc])); skip)
 | (apply WP_draw; (case hl => rfl); (case hds => (simp only [List.map_cons, List.map_nil]; rfl)); (case hc => (simp only [put_env', put_own', put_ctr', put_none', setOwn_env', setOwn_own', setOwn_ctr', setCtr_env', setCtr_own', setCtr_ctr', entry, entryEnv, entryOwn, inAV, scAV, inOB]; rfl)); (case hc' => (conv => lhs; simp only [List.size_toArray, List.length_cons, List.length_nil, Nat.zero_add, Nat.reduceAdd, Nat.add_assoc])); (case hD => rfl); (case hb => kernel_rfl); (case h1 => (simp only [List.take_succ_cons, List.take_zero]; rfl)); (case h2 => (simp only [List.drop_succ_cons, List.drop_zero]; rfl)); (case h3 => (simp only [List.take_succ_cons, List.take_zero]; rfl)); intro had; skip)
 | refine evOps_nil ?_
 | refine evQ_nil ?_
 | (apply evQ_one; (case had => assumption); (case hg => rfl); (case hd => (simp [dstB]; done)); (case h => (simp [evQuiet, evCallQ, known, njk, AV.isJunk, Op.operands, Call.operands, evEff, evStep, evPure, a0, a3, a6, o3, hown, h23, sp23, decX, xt_eta, h25, sp25, decL_enc, hfew, htk, hm1, h29, sp29, List.filter_cons, Xt.enc, ha, h60, hne, hin, hf, hinI]; with_reducible rfl)); (case hs => (simp; done)); (case hR => (simp only [List.nil_append, List.cons_append]; rfl)); skip)
 | (apply evQ_yes; (case had => assumption); (case hg => rfl); (case hb => (simp [gval, evEff, dstB, a0, a3, a6, o3, hown, h23, sp23, decX, xt_eta, h25, sp25, decL_enc, hfew, htk, hm1, h29, sp29, List.filter_cons, Xt.enc, ha, h60, hne, hin, hf, hinI]; done)); (case hd => (simp [dstB]; done)); (case h => (simp [evQuiet, evCallQ, known, njk, AV.isJunk, Op.operands, Call.operands, evEff, evStep, evPure, a0, a3, a6, o3, hown, h23, sp23, decX, xt_eta, h25, sp25, decL_enc, hfew, htk, hm1, h29, sp29, List.filter_cons, Xt.enc, ha, h60, hne, hin, hf, hinI]; with_reducible rfl)); (case hs => (simp; done)); (case hR => (simp only [List.nil_append, List.cons_append]; rfl)); skip)
 | (apply evQ_no; (case had => assumption); (case hg => rfl); (case hb => (simp [gval, evEff, dstB, a0, a3, a6, o3, hown, h23, sp23, decX, xt_eta, h25, sp25, decL_enc, hfew, htk, hm1, h29, sp29, List.filter_cons, Xt.enc, ha, h60, hne, hin, hf, hinI]; with_reducible rfl)); (case hne => (simp; done)); (case hd => (simp [dstB]; done)); (case hR => (simp only [List.nil_append, List.cons_append]; rfl)); skip)
 | (apply evQ_split; (case hg => rfl); (case hb => (simp only [List.getElem?_cons_succ, List.getElem?_cons_zero]; rfl)); (case hv => ((fail_if_success (with_reducible exact (rfl : (_ : QR) = (AV.d (.val (.bool true)) _, none)))); (fail_if_success (with_reducible exact (rfl : (_ : QR) = (AV.d (.val (.bool false)) _, none)))); rfl)); (case hT => (simp only [List.set_cons_succ, List.set_cons_zero]; rfl)); (case hF => (simp only [List.set_cons_succ, List.set_cons_zero]; rfl)); skip)
 | (apply evOps_one; (case hg => rfl); (case h => (simp [evStep, evPure, a0, a3, a6, o3, hown, h23, sp23, decX, xt_eta, h25, sp25, decL_enc, hfew, htk, hm1, h29, sp29, List.filter_cons, Xt.enc, ha, h60, hne, hin, hf, hinI]; with_reducible rfl)); skip)
 | (apply evOps_yes; (case hg => rfl); (case hb => (simp [gval, dstB, a0, a3, a6, o3, hown, h23, sp23, decX, xt_eta, h25, sp25, decL_enc, hfew, htk, hm1, h29, sp29, List.filter_cons, Xt.enc, ha, h60, hne, hin, hf, hinI]; done)); (case h => (simp [evStep, evPure, a0, a3, a6, o3, hown, h23, sp23, decX, xt_eta, h25, sp25, decL_enc, hfew, htk, hm1, h29, sp29, List.filter_cons, Xt.enc, ha, h60, hne, hin, hf, hinI]; with_reducible rfl)); skip)
 | (apply evOps_no; (case hg => rfl); (case hb => (simp [gval, dstB, a0, a3, a6, o3, hown, h23, sp23, decX, xt_eta, h25, sp25, decL_enc, hfew, htk, hm1, h29, sp29, List.filter_cons, Xt.enc, ha, h60, hne, hin, hf, hinI]; with_reducible rfl)); (case hne => (simp; done)); (case hd => (simp [dstB]; done)); skip)
 | (apply evOps_big; (case hg => rfl); (case hd => (simp [dstB]; done)); (case hb => (simp [evBig, evStep, evPure, a0, a3, a6, o3, hown, h23, sp23, decX, xt_eta, h25, sp25, decL_enc, hfew, htk, hm1, h29, sp29, List.filter_cons, Xt.enc, ha, h60, hne, hin, hf, hinI]; with_reducible rfl)); skip)
 | (apply evOps_bigYes; (case hg => rfl); (case hgv => (simp [gval, dstB, a0, a3, a6, o3, hown, h23, sp23, decX, xt_eta, h25, sp25, decL_enc, hfew, htk, hm1, h29, sp29, List.filter_cons, Xt.enc, ha, h60, hne, hin, hf, hinI]; done)); (case hd => (simp [dstB]; done)); (case hb => (simp [evBig, evStep, evPure, a0, a3, a6, o3, hown, h23, sp23, decX, xt_eta, h25, sp25, decL_enc, hfew, htk, hm1, h29, sp29, List.filter_cons, Xt.enc, ha, h60, hne, hin, hf, hinI]; with_reducible rfl)); skip)
 | (apply evOps_split; (case _hg => rfl); (case _ht => rfl); (case hb => (simp [dstB]; with_reducible rfl)); (case hv => ((fail_if_success (with_reducible exact (rfl : (_ : AV) = AV.d (.val (.bool true)) _))); (fail_if_success (with_reducible exact (rfl : (_ : AV) = AV.d (.val (.bool false)) _))); rfl)); skip)
 | (apply WP_cond; (case hx => (simp [St.eval, dstB, a0, a3, a6, o3, hown, h23, sp23, decX, xt_eta, h25, sp25, decL_enc, hfew, htk, hm1, h29, sp29, List.filter_cons, Xt.enc, ha, h60, hne, hin, hf, hinI]; with_reducible rfl)); (case hv => rfl); skip))
              all_goals simp [Fin1, resVals, ownOf, FinList1, FinOne1, FinWr1, nodupB, Try.results9, out9, out29, outErr, hc, he, hi, hm, clashX, ha, h60, hne, hf, hin, hown, valRow_enc, evStep, evPure]
      · obtain rfl := hn rfl
        obtain rfl : i = 0 := by simpa using hil
        repeat' (first
 | (intro h; first | (exfalso; exact Bool.noConfusion h) | (simp only [decide_eq_true_eq, decide_eq_false_iff_not] at h) | skip)
 | (apply evOps_fin; (case hf => (simp only [finGo, app1]; rfl)); skip)
 | refine WP_seq ?_
 | refine WP_scope ?_
 | refine WP_block ?_
 | refine WP_ret ?_
 | refine WP_skip ?_
 | refine WP_exit ?_
 | (apply WP_region; (case hl => rfl); (case hc => (simp only [put_env', put_own', put_ctr', put_none', setOwn_env', setOwn_own', setOwn_ctr', setCtr_env', setCtr_own', setCtr_ctr', entry, entryEnv, entryOwn, inAV, scAV, inOB]; rfl)); (case hc' => (conv => lhs; simp only [List.size_toArray, List.length_cons, List.length_nil, Nat.zero_add, Nat.reduceAdd, Nat.add_assoc])); skip)
 | (apply WP_draw; (case hl => rfl); (case hds => (simp only [List.map_cons, List.map_nil]; rfl)); (case hc => (simp only [put_env', put_own', put_ctr', put_none', setOwn_env', setOwn_own', setOwn_ctr', setCtr_env', setCtr_own', setCtr_ctr', entry, entryEnv, entryOwn, inAV, scAV, inOB]; rfl)); (case hc' => (conv => lhs; simp only [List.size_toArray, List.length_cons, List.length_nil, Nat.zero_add, Nat.reduceAdd, Nat.add_assoc])); (case hD => rfl); (case hb => kernel_rfl); (case h1 => (simp only [List.take_succ_cons, List.take_zero]; rfl)); (case h2 => (simp only [List.drop_succ_cons, List.drop_zero]; rfl)); (case h3 => (simp only [List.take_succ_cons, List.take_zero]; rfl)); intro had; skip)
 | refine evOps_nil ?_
 | refine evQ_nil ?_
 | (apply evQ_one; (case had => assumption); (case hg => rfl); (case hd => (simp [dstB]; done)); (case h => (simp [evQuiet, evCallQ, known, njk, AV.isJunk, Op.operands, Call.operands, evEff, evStep, evPure, h7, sp7, decL, h22, sp22, h26, sp26, h28, sp28, out28, decL_enc, hc, decX, xt_eta, he, hok, hl1, hi, Xt.enc, h27, E9_27, List.filter_cons]; with_reducible rfl)); (case hs => (simp; done)); (case hR => (simp only [List.nil_append, List.cons_append]; rfl)); skip)
 | (apply evQ_yes; (case had => assumption); (case hg => rfl); (case hb => (simp [gval, evEff, dstB, h7, sp7, decL, h22, sp22, h26, sp26, h28, sp28, out28, decL_enc, hc, decX, xt_eta, he, hok, hl1, hi, Xt.enc, h27, E9_27, List.filter_cons]; done)); (case hd => (simp [dstB]; done)); (case h => (simp [evQuiet, evCallQ, known, njk, AV.isJunk, Op.operands, Call.operands, evEff, evStep, evPure, h7, sp7, decL, h22, sp22, h26, sp26, h28, sp28, out28, decL_enc, hc, decX, xt_eta, he, hok, hl1, hi, Xt.enc, h27, E9_27, List.filter_cons]; with_reducible rfl)); (case hs => (simp; done)); (case hR => (simp only [List.nil_append, List.cons_append]; rfl)); skip)
 | (apply evQ_no; (case had => assumption); (case hg => rfl); (case hb => (simp [gval, evEff, dstB, h7, sp7, decL, h22, sp22, h26, sp26, h28, sp28, out28, decL_enc, hc, decX, xt_eta, he, hok, hl1, hi, Xt.enc, h27, E9_27, List.filter_cons]; with_reducible rfl)); (case hne => (simp; done)); (case hd => (simp [dstB]; done)); (case hR => (simp only [List.nil_append, List.cons_append]; rfl)); skip)
 | (apply evQ_split; (case hg => rfl); (case hb => (simp only [List.getElem?_cons_succ, List.getElem?_cons_zero]; rfl)); (case hv => ((fail_if_success (with_reducible exact (rfl : (_ : QR) = (AV.d (.val (.bool true)) _, none)))); (fail_if_success (with_reducible exact (rfl : (_ : QR) = (AV.d (.val (.bool false)) _, none)))); rfl)); (case hT => (simp only [List.set_cons_succ, List.set_cons_zero]; rfl)); (case hF => (simp only [List.set_cons_succ, List.set_cons_zero]; rfl)); skip)
 | (apply evOps_one; (case hg => rfl); (case h => (simp [evStep, evPure, h7, sp7, decL, h22, sp22, h26, sp26, h28, sp28, out28, decL_enc, hc, decX, xt_eta, he, hok, hl1, hi, Xt.enc, h27, E9_27, List.filter_cons]; with_reducible rfl)); skip)
 | (apply evOps_yes; (case hg => rfl); (case hb => (simp [gval, dstB, h7, sp7, decL, h22, sp22, h26, sp26, h28, sp28, out28, decL_enc, hc, decX, xt_eta, he, hok, hl1, hi, Xt.enc, h27, E9_27, List.filter_cons]; done)); (case h => (simp [evStep, evPure, h7, sp7, decL, h22, sp22, h26, sp26, h28, sp28, out28, decL_enc, hc, decX, xt_eta, he, hok, hl1, hi, Xt.enc, h27, E9_27, List.filter_cons]; with_reducible rfl)); skip)
 | (apply evOps_no; (case hg => rfl); (case hb => (simp [gval, dstB, h7, sp7, decL, h22, sp22, h26, sp26, h28, sp28, out28, decL_enc, hc, decX, xt_eta, he, hok, hl1, hi, Xt.enc, h27, E9_27, List.filter_cons]; with_reducible rfl)); (case hne => (simp; done)); (case hd => (simp [dstB]; done)); skip)
 | (apply evOps_big; (case hg => rfl); (case hd => (simp [dstB]; done)); (case hb => (simp [evBig, evStep, evPure, h7, sp7, decL, h22, sp22, h26, sp26, h28, sp28, out28, decL_enc, hc, decX, xt_eta, he, hok, hl1, hi, Xt.enc, h27, E9_27, List.filter_cons]; with_reducible rfl)); skip)
 | (apply evOps_bigYes; (case hg => rfl); (case hgv => (simp [gval, dstB, h7, sp7, decL, h22, sp22, h26, sp26, h28, sp28, out28, decL_enc, hc, decX, xt_eta, he, hok, hl1, hi, Xt.enc, h27, E9_27, List.filter_cons]; done)); (case hd => (simp [dstB]; done)); (case hb => (simp [evBig, evStep, evPure, h7, sp7, decL, h22, sp22, h26, sp26, h28, sp28, out28, decL_enc, hc, decX, xt_eta, he, hok, hl1, hi, Xt.enc, h27, E9_27, List.filter_cons]; with_reducible rfl)); skip)
 | (apply evOps_split; (case _hg => rfl); (case _ht => rfl); (case hb => (simp [dstB]; with_reducible rfl)); (case hv => ((fail_if_success (with_reducible exact (rfl : (_ : AV) = AV.d (.val (.bool true)) _))); (fail_if_success (with_reducible exact (rfl : (_ : AV) = AV.d (.val (.bool false)) _))); rfl)); skip)
 | (apply WP_cond; (case hx => (simp [St.eval, dstB, h7, sp7, decL, h22, sp22, h26, sp26, h28, sp28, out28, decL_enc, hc, decX, xt_eta, he, hok, hl1, hi, Xt.enc, h27, E9_27, List.filter_cons]; with_reducible rfl)); (case hv => rfl); skip))
        refine .inr (insNil_walk (e := e) (av := true) (mv := false) (frv := false) (by decide) (by simp [dstB, Xt.enc]) h53 ?_)
        intro c fr' σ' henv hctr hown hrest
        obtain ⟨m, hm⟩ : ∃ m, insL [] 0 e = m := ⟨_, rfl⟩
        have hml : 1 = m.length := by rw [← hm]; rfl
        have hfew : fewL m = true := by
          simp only [fewL, mayL, Bool.and_eq_true, decide_eq_true_eq]
          exact ⟨hm ▸ insL_may _ (all_may hch) he, by omega⟩
        have hm1 : m.length ≤ 1000 := by omega
        have htk : List.take 1 (m.map Xt.enc) = m.map Xt.enc := List.take_of_length_le (by simp; omega)
        have hne : m ≠ [] := by intro e0; rw [e0] at hml; simp at hml
        have hml1 : m.length = 1 := hml.symm
        rw [show [e] = m from hm] at hown
        have a0 : σ'.env 0 = .d (.sl true ([])) false := by rw [henv]; simp [dstB]
        have a3 : σ'.env 3 = .rp 3 1 0 0 := by rw [henv]; simp [dstB]
        have a6 : σ'.env 6 = .d (vi 0) true := by rw [henv]; simp [dstB]
        have o3 : σ'.own 3 = some (.var 24 1 false [.d (vi e.at') false, .d (vi e.start) false, .d (vi e.len) false, .d (vb e.un) false]) := by rw [hrest 3 (by decide) (by decide)]; simp [dstB]
        clear henv hctr hrest
        show evOps _ _ _ _ _ _ _ _ _ _ _
        cases ha : apartX m
        · repeat' (first
 | (intro h; first | (exfalso; exact Bool.noConfusion h) | (simp only [decide_eq_true_eq, decide_eq_false_iff_not] at h) | skip)
 | (apply evOps_fin; (case hf => (simp only [finGo, app1]; rfl)); skip)
 | refine WP_seq ?_
 | refine WP_scope ?_
 | refine WP_block ?_
 | refine WP_ret ?_
 | refine WP_skip ?_
 | refine WP_exit ?_
 | (apply WP_region; (case hl => rfl); (case hc => (simp only [put_env', put_own', put_ctr', put_none', setOwn_env', setOwn_own', setOwn_ctr', setCtr_env', setCtr_own', setCtr_ctr', entry, entryEnv, entryOwn, inAV, scAV, inOB]; rfl)); (case hc' => (conv => lhs; simp only [List.size_toArray, List.length_cons, List.length_nil, Nat.zero_add, Nat.reduceAdd, Nat.add_assoc])); skip)
 | (apply WP_draw; (case hl => rfl); (case hds => (simp only [List.map_cons, List.map_nil]; rfl)); (case hc => (simp only [put_env', put_own', put_ctr', put_none', setOwn_env', setOwn_own', setOwn_ctr', setCtr_env', setCtr_own', setCtr_ctr', entry, entryEnv, entryOwn, inAV, scAV, inOB]; rfl)); (case hc' => (conv => lhs; simp only [List.size_toArray, List.length_cons, List.length_nil, Nat.zero_add, Nat.reduceAdd, Nat.add_assoc])); (case hD => rfl); (case hb => kernel_rfl); (case h1 => (simp only [List.take_succ_cons, List.take_zero]; rfl)); (case h2 => (simp only [List.drop_succ_cons, List.drop_zero]; rfl)); (case h3 => (simp only [List.take_succ_cons, List.take_zero]; rfl)); intro had; skip)
 | refine evOps_nil ?_
 | refine evQ_nil ?_
 | (apply evQ_one; (case had => assumption); (case hg => rfl); (case hd => (simp [dstB]; done)); (case h => (simp [evQuiet, evCallQ, known, njk, AV.isJunk, Op.operands, Call.operands, evEff, evStep, evPure, a0, a3, a6, o3, hown, h23, sp23, decX, xt_eta, h25, sp25, decL_enc, hfew, htk, hm1, hml1, h29, sp29, List.filter_cons, Xt.enc, ha, List.map_nil]; with_reducible rfl)); (case hs => (simp; done)); (case hR => (simp only [List.nil_append, List.cons_append]; rfl)); skip)
 | (apply evQ_yes; (case had => assumption); (case hg => rfl); (case hb => (simp [gval, evEff, dstB, a0, a3, a6, o3, hown, h23, sp23, decX, xt_eta, h25, sp25, decL_enc, hfew, htk, hm1, hml1, h29, sp29, List.filter_cons, Xt.enc, ha, List.map_nil]; done)); (case hd => (simp [dstB]; done)); (case h => (simp [evQuiet, evCallQ, known, njk, AV.isJunk, Op.operands, Call.operands, evEff, evStep, evPure, a0, a3, a6, o3, hown, h23, sp23, decX, xt_eta, h25, sp25, decL_enc, hfew, htk, hm1, hml1, h29, sp29, List.filter_cons, Xt.enc, ha, List.map_nil]; with_reducible rfl)); (case hs => (simp; done)); (case hR => (simp only [List.nil_append, List.cons_append]; rfl)); skip)
 | (apply evQ_no; (case had => assumption); (case hg => rfl); (case hb => (simp [gval, evEff, dstB, a0, a3, a6, o3, hown, h23, sp23, decX, xt_eta, h25, sp25, decL_enc, hfew, htk, hm1, hml1, h29, sp29, List.filter_cons, Xt.enc, ha, List.map_nil]; with_reducible rfl)); (case hne => (simp; done)); (case hd => (simp [dstB]; done)); (case hR => (simp only [List.nil_append, List.cons_append]; rfl)); skip)
 | (apply evQ_split; (case hg => rfl); (case hb => (simp only [List.getElem?_cons_succ, List.getElem?_cons_zero]; rfl)); (case hv => ((fail_if_success (with_reducible exact (rfl : (_ : QR) = (AV.d (.val (.bool true)) _, none)))); (fail_if_success (with_reducible exact (rfl : (_ : QR) = (AV.d (.val (.bool false)) _, none)))); rfl)); (case hT => (simp only [List.set_cons_succ, List.set_cons_zero]; rfl)); (case hF => (simp only [List.set_cons_succ, List.set_cons_zero]; rfl)); skip)
 | (apply evOps_one; (case hg => rfl); (case h => (simp [evStep, evPure, a0, a3, a6, o3, hown, h23, sp23, decX, xt_eta, h25, sp25, decL_enc, hfew, htk, hm1, hml1, h29, sp29, List.filter_cons, Xt.enc, ha, List.map_nil]; with_reducible rfl)); skip)
 | (apply evOps_yes; (case hg => rfl); (case hb => (simp [gval, dstB, a0, a3, a6, o3, hown, h23, sp23, decX, xt_eta, h25, sp25, decL_enc, hfew, htk, hm1, hml1, h29, sp29, List.filter_cons, Xt.enc, ha, List.map_nil]; done)); (case h => (simp [evStep, evPure, a0, a3, a6, o3, hown, h23, sp23, decX, xt_eta, h25, sp25, decL_enc, hfew, htk, hm1, hml1, h29, sp29, List.filter_cons, Xt.enc, ha, List.map_nil]; with_reducible rfl)); skip)
 | (apply evOps_no; (case hg => rfl); (case hb => (simp [gval, dstB, a0, a3, a6, o3, hown, h23, sp23, decX, xt_eta, h25, sp25, decL_enc, hfew, htk, hm1, hml1, h29, sp29, List.filter_cons, Xt.enc, ha, List.map_nil]; with_reducible rfl)); (case hne => (simp; done)); (case hd => (simp [dstB]; done)); skip)
 | (apply evOps_big; (case hg => rfl); (case hd => (simp [dstB]; done)); (case hb => (simp [evBig, evStep, evPure, a0, a3, a6, o3, hown, h23, sp23, decX, xt_eta, h25, sp25, decL_enc, hfew, htk, hm1, hml1, h29, sp29, List.filter_cons, Xt.enc, ha, List.map_nil]; with_reducible rfl)); skip)
 | (apply evOps_bigYes; (case hg => rfl); (case hgv => (simp [gval, dstB, a0, a3, a6, o3, hown, h23, sp23, decX, xt_eta, h25, sp25, decL_enc, hfew, htk, hm1, hml1, h29, sp29, List.filter_cons, Xt.enc, ha, List.map_nil]; done)); (case hd => (simp [dstB]; done)); (case hb => (simp [evBig, evStep, evPure, a0, a3, a6, o3, hown, h23, sp23, decX, xt_eta, h25, sp25, decL_enc, hfew, htk, hm1, hml1, h29, sp29, List.filter_cons, Xt.enc, ha, List.map_nil]; with_reducible rfl)); skip)
 | (apply evOps_split; (case _hg => rfl); (case _ht => rfl); (case hb => (simp [dstB]; with_reducible rfl)); (case hv => ((fail_if_success (with_reducible exact (rfl : (_ : AV) = AV.d (.val (.bool true)) _))); (fail_if_success (with_reducible exact (rfl : (_ : AV) = AV.d (.val (.bool false)) _))); rfl)); skip)
 | (apply WP_cond; (case hx => (simp [St.eval, dstB, a0, a3, a6, o3, hown, h23, sp23, decX, xt_eta, h25, sp25, decL_enc, hfew, htk, hm1, hml1, h29, sp29, List.filter_cons, Xt.enc, ha, List.map_nil]; with_reducible rfl)); (case hv => rfl); skip))
          all_goals simp [Fin1, resVals, ownOf, FinList1, FinOne1, FinWr1, nodupB, Try.results9, out9, out29, outErr, hc, he, hi, hm, clashX, ha, evStep, evPure]
        · by_cases h60 : (mergeX m).length > 60
          · repeat' (first
 | (intro h; first | (exfalso; exact Bool.noConfusion h) | (simp only [decide_eq_true_eq, decide_eq_false_iff_not] at h) | skip)
 | (apply evOps_fin; (case hf => (simp only [finGo, app1]; rfl)); skip)
 | refine WP_seq ?_
 | refine WP_scope ?_
 | refine WP_block ?_
 | refine WP_ret ?_
 | refine WP_skip ?_
 | refine WP_exit ?_
 | (apply WP_region; (case hl => rfl); (case hc => (simp only [put_env', put_own', put_ctr', put_none', setOwn_env', setOwn_own', setOwn_ctr', setCtr_env', setCtr_own', setCtr_ctr', entry, entryEnv, entryOwn, inAV, scAV, inOB]; rfl)); (case hc' => (conv => lhs; simp only [List.size_toArray, List.length_cons, List.length_nil, Nat.zero_add, Nat.reduceAdd, Nat.add_assoc])); skip)
 | (apply WP_draw; (case hl => rfl); (case hds => (simp only [List.map_cons, List.map_nil]; rfl)); (case hc => (simp only [put_env', put_own', put_ctr', put_none', setOwn_env', setOwn_own', setOwn_ctr', setCtr_env', setCtr_own', setCtr_ctr', entry, entryEnv, entryOwn, inAV, scAV, inOB]; rfl)); (case hc' => (conv => lhs; simp only [List.size_toArray, List.length_cons, List.length_nil, Nat.zero_add, Nat.reduceAdd, Nat.add_assoc])); (case hD => rfl); (case hb => kernel_rfl); (case h1 => (simp only [List.take_succ_cons, List.take_zero]; rfl)); (case h2 => (simp only [List.drop_succ_cons, List.drop_zero]; rfl)); (case h3 => (simp only [List.take_succ_cons, List.take_zero]; rfl)); intro had; skip)
 | refine evOps_nil ?_
 | refine evQ_nil ?_
 | (apply evQ_one; (case had => assumption); (case hg => rfl); (case hd => (simp [dstB]; done)); (case h => (simp [evQuiet, evCallQ, known, njk, AV.isJunk, Op.operands, Call.operands, evEff, evStep, evPure, a0, a3, a6, o3, hown, h23, sp23, decX, xt_eta, h25, sp25, decL_enc, hfew, htk, hm1, hml1, h29, sp29, List.filter_cons, Xt.enc, ha, h60, hne, List.map_nil]; with_reducible rfl)); (case hs => (simp; done)); (case hR => (simp only [List.nil_append, List.cons_append]; rfl)); skip)
 | (apply evQ_yes; (case had => assumption); (case hg => rfl); (case hb => (simp [gval, evEff, dstB, a0, a3, a6, o3, hown, h23, sp23, decX, xt_eta, h25, sp25, decL_enc, hfew, htk, hm1, hml1, h29, sp29, List.filter_cons, Xt.enc, ha, h60, hne, List.map_nil]; done)); (case hd => (simp [dstB]; done)); (case h => (simp [evQuiet, evCallQ, known, njk, AV.isJunk, Op.operands, Call.operands, evEff, evStep, evPure, a0, a3, a6, o3, hown, h23, sp23, decX, xt_eta, h25, sp25, decL_enc, hfew, htk, hm1, hml1, h29, sp29, List.filter_cons, Xt.enc, ha, h60, hne, List.map_nil]; with_reducible rfl)); (case hs => (simp; done)); (case hR => (simp only [List.nil_append, List.cons_append]; rfl)); skip)
 | (apply evQ_no; (case had => assumption); (case hg => rfl); (case hb => (simp [gval, evEff, dstB, a0, a3, a6, o3, hown, h23, sp23, decX, xt_eta, h25, sp25, decL_enc, hfew, htk, hm1, hml1, h29, sp29, List.filter_cons, Xt.enc, ha, h60, hne, List.map_nil]; with_reducible rfl)); (case hne => (simp; done)); (case hd => (simp [dstB]; done)); (case hR => (simp only [List.nil_append, List.cons_append]; rfl)); skip)
 | (apply evQ_split; (case hg => rfl); (case hb => (simp only [List.getElem?_cons_succ, List.getElem?_cons_zero]; rfl)); (case hv => ((fail_if_success (with_reducible exact (rfl : (_ : QR) = (AV.d (.val (.bool true)) _, none)))); (fail_if_success (with_reducible exact (rfl : (_ : QR) = (AV.d (.val (.bool false)) _, none)))); rfl)); (case hT => (simp only [List.set_cons_succ, List.set_cons_zero]; rfl)); (case hF => (simp only [List.set_cons_succ, List.set_cons_zero]; rfl)); skip)
 | (apply evOps_one; (case hg => rfl); (case h => (simp [evStep, evPure, a0, a3, a6, o3, hown, h23, sp23, decX, xt_eta, h25, sp25, decL_enc, hfew, htk, hm1, hml1, h29, sp29, List.filter_cons, Xt.enc, ha, h60, hne, List.map_nil]; with_reducible rfl)); skip)
 | (apply evOps_yes; (case hg => rfl); (case hb => (simp [gval, dstB, a0, a3, a6, o3, hown, h23, sp23, decX, xt_eta, h25, sp25, decL_enc, hfew, htk, hm1, hml1, h29, sp29, List.filter_cons, Xt.enc, ha, h60, hne, List.map_nil]; done)); (case h => (simp [evStep, evPure, a0, a3, a6, o3, hown, h23, sp23, decX, xt_eta, h25, sp25, decL_enc, hfew, htk, hm1, hml1, h29, sp29, List.filter_cons, Xt.enc, ha, h60, hne, List.map_nil]; with_reducible rfl)); skip)
 | (apply evOps_no; (case hg => rfl); (case hb => (simp [gval, dstB, a0, a3, a6, o3, hown, h23, sp23, decX, xt_eta, h25, sp25, decL_enc, hfew, htk, hm1, hml1, h29, sp29, List.filter_cons, Xt.enc, ha, h60, hne, List.map_nil]; with_reducible rfl)); (case hne => (simp; done)); (case hd => (simp [dstB]; done)); skip)
 | (apply evOps_big; (case hg => rfl); (case hd => (simp [dstB]; done)); (case hb => (simp [evBig, evStep, evPure, a0, a3, a6, o3, hown, h23, sp23, decX, xt_eta, h25, sp25, decL_enc, hfew, htk, hm1, hml1, h29, sp29, List.filter_cons, Xt.enc, ha, h60, hne, List.map_nil]; with_reducible rfl)); skip)
 | (apply evOps_bigYes; (case hg => rfl); (case hgv => (simp [gval, dstB, a0, a3, a6, o3, hown, h23, sp23, decX, xt_eta, h25, sp25, decL_enc, hfew, htk, hm1, hml1, h29, sp29, List.filter_cons, Xt.enc, ha, h60, hne, List.map_nil]; done)); (case hd => (simp [dstB]; done)); (case hb => (simp [evBig, evStep, evPure, a0, a3, a6, o3, hown, h23, sp23, decX, xt_eta, h25, sp25, decL_enc, hfew, htk, hm1, hml1, h29, sp29, List.filter_cons, Xt.enc, ha, h60, hne, List.map_nil]; with_reducible rfl)); skip)
 | (apply evOps_split; (case _hg => rfl); (case _ht => rfl); (case hb => (simp [dstB]; with_reducible rfl)); (case hv => ((fail_if_success (with_reducible exact (rfl : (_ : AV) = AV.d (.val (.bool true)) _))); (fail_if_success (with_reducible exact (rfl : (_ : AV) = AV.d (.val (.bool false)) _))); rfl)); skip)
 | (apply WP_cond; (case hx => (simp [St.eval, dstB, a0, a3, a6, o3, hown, h23, sp23, decX, xt_eta, h25, sp25, decL_enc, hfew, htk, hm1, hml1, h29, sp29, List.filter_cons, Xt.enc, ha, h60, hne, List.map_nil]; with_reducible rfl)); (case hv => rfl); skip))
            all_goals simp [Fin1, resVals, ownOf, FinList1, FinOne1, FinWr1, nodupB, Try.results9, out9, out29, outErr, hc, he, hi, hm, clashX, ha, h60, hne, hml1, hown, valRow_enc, evStep, evPure]
          · repeat' (first
 | (intro h; first | (exfalso; exact Bool.noConfusion h) | (simp only [decide_eq_true_eq, decide_eq_false_iff_not] at h) | skip)
 | (apply evOps_fin; (case hf => (simp only [finGo, app1]; rfl)); skip)
 | refine WP_seq ?_
 | refine WP_scope ?_
 | refine WP_block ?_
 | refine WP_ret ?_
 | refine WP_skip ?_
 | refine WP_exit ?_
 | (apply WP_region; (case hl => rfl); (case hc => (simp only [put_env', put_own', put_ctr', put_none', setOwn_env', setOwn_own', setOwn_ctr', setCtr_env', setCtr_own', setCtr_ctr', entry, entryEnv, entryOwn, inAV, scAV, inOB]; rfl)); (case hc' => (conv => lhs; simp only [List.size_toArray, List.length_cons, List.length_nil, Nat.zero_add, Nat.reduceAdd, Nat.add_assoc])); skip)
 | (apply WP_draw; (case hl => rfl); (case hds => (simp only [List.map_cons, List.map_nil]; rfl)); (case hc => (simp only [put_env', put_own', put_ctr', put_none', setOwn_env', setOwn_own', setOwn_ctr', setCtr_env', setCtr_own', setCtr_ctr', entry, entryEnv, entryOwn, inAV, scAV, inOB]; rfl)); (case hc' => (conv => lhs; simp only [List.size_toArray, List.length_cons, List.length_nil, Nat.zero_add, Nat.reduceAdd, Nat.add_assoc])); (case hD => rfl); (case hb => kernel_rfl); (case h1 => (simp only [List.take_succ_cons, List.take_zero]; rfl)); (case h2 => (simp only [List.drop_succ_cons, List.drop_zero]; rfl)); (case h3 => (simp only [List.take_succ_cons, List.take_zero]; rfl)); intro had; skip)
 | refine evOps_nil ?_
 | refine evQ_nil ?_
 | (apply evQ_one; (case had => assumption); (case hg => rfl); (case hd => (simp [dstB]; done)); (case h => (simp [evQuiet, evCallQ, known, njk, AV.isJunk, Op.operands, Call.operands, evEff, evStep, evPure, a0, a3, a6, o3, hown, h23, sp23, decX, xt_eta, h25, sp25, decL_enc, hfew, htk, hm1, hml1, h29, sp29, List.filter_cons, Xt.enc, ha, h60, hne, List.map_nil]; with_reducible rfl)); (case hs => (simp; done)); (case hR => (simp only [List.nil_append, List.cons_append]; rfl)); skip)
 | (apply evQ_yes; (case had => assumption); (case hg => rfl); (case hb => (simp [gval, evEff, dstB, a0, a3, a6, o3, hown, h23, sp23, decX, xt_eta, h25, sp25, decL_enc, hfew, htk, hm1, hml1, h29, sp29, List.filter_cons, Xt.enc, ha, h60, hne, List.map_nil]; done)); (case hd => (simp [dstB]; done)); (case h => (simp [evQuiet, evCallQ, known, njk, AV.isJunk, Op.operands, Call.operands, evEff, evStep, evPure, a0, a3, a6, o3, hown, h23, sp23, decX, xt_eta, h25, sp25, decL_enc, hfew, htk, hm1, hml1, h29, sp29, List.filter_cons, Xt.enc, ha, h60, hne, List.map_nil]; with_reducible rfl)); (case hs => (simp; done)); (case hR => (simp only [List.nil_append, List.cons_append]; rfl)); skip)
 | (apply evQ_no; (case had => assumption); (case hg => rfl); (case hb => (simp [gval, evEff, dstB, a0, a3, a6, o3, hown, h23, sp23, decX, xt_eta, h25, sp25, decL_enc, hfew, htk, hm1, hml1, h29, sp29, List.filter_cons, Xt.enc, ha, h60, hne, List.map_nil]; with_reducible rfl)); (case hne => (simp; done)); (case hd => (simp [dstB]; done)); (case hR => (simp only [List.nil_append, List.cons_append]; rfl)); skip)
 | (apply evQ_split; (case hg => rfl); (case hb => (simp only [List.getElem?_cons_succ, List.getElem?_cons_zero]; rfl)); (case hv => ((fail_if_success (with_reducible exact (rfl : (_ : QR) = (AV.d (.val (.bool true)) _, none)))); (fail_if_success (with_reducible exact (rfl : (_ : QR) = (AV.d (.val (.bool false)) _, none)))); rfl)); (case hT => (simp only [List.set_cons_succ, List.set_cons_zero]; rfl)); (case hF => (simp only [List.set_cons_succ, List.set_cons_zero]; rfl)); skip)
 | (apply evOps_one; (case hg => rfl); (case h => (simp [evStep, evPure, a0, a3, a6, o3, hown, h23, sp23, decX, xt_eta, h25, sp25, decL_enc, hfew, htk, hm1, hml1, h29, sp29, List.filter_cons, Xt.enc, ha, h60, hne, List.map_nil]; with_reducible rfl)); skip)
 | (apply evOps_yes; (case hg => rfl); (case hb => (simp [gval, dstB, a0, a3, a6, o3, hown, h23, sp23, decX, xt_eta, h25, sp25, decL_enc, hfew, htk, hm1, hml1, h29, sp29, List.filter_cons, Xt.enc, ha, h60, hne, List.map_nil]; done)); (case h => (simp [evStep, evPure, a0, a3, a6, o3, hown, h23, sp23, decX, xt_eta, h25, sp25, decL_enc, hfew, htk, hm1, hml1, h29, sp29, List.filter_cons, Xt.enc, ha, h60, hne, List.map_nil]; with_reducible rfl)); skip)
 | (apply evOps_no; (case hg => rfl); (case hb => (simp [gval, dstB, a0, a3, a6, o3, hown, h23, sp23, decX, xt_eta, h25, sp25, decL_enc, hfew, htk, hm1, hml1, h29, sp29, List.filter_cons, Xt.enc, ha, h60, hne, List.map_nil]; with_reducible rfl)); (case hne => (simp; done)); (case hd => (simp [dstB]; done)); skip)
 | (apply evOps_big; (case hg => rfl); (case hd => (simp [dstB]; done)); (case hb => (simp [evBig, evStep, evPure, a0, a3, a6, o3, hown, h23, sp23, decX, xt_eta, h25, sp25, decL_enc, hfew, htk, hm1, hml1, h29, sp29, List.filter_cons, Xt.enc, ha, h60, hne, List.map_nil]; with_reducible rfl)); skip)
 | (apply evOps_bigYes; (case hg => rfl); (case hgv => (simp [gval, dstB, a0, a3, a6, o3, hown, h23, sp23, decX, xt_eta, h25, sp25, decL_enc, hfew, htk, hm1, hml1, h29, sp29, List.filter_cons, Xt.enc, ha, h60, hne, List.map_nil]; done)); (case hd => (simp [dstB]; done)); (case hb => (simp [evBig, evStep, evPure, a0, a3, a6, o3, hown, h23, sp23, decX, xt_eta, h25, sp25, decL_enc, hfew, htk, hm1, hml1, h29, sp29, List.filter_cons, Xt.enc, ha, h60, hne, List.map_nil]; with_reducible rfl)); skip)
 | (apply evOps_split; (case _hg => rfl); (case _ht => rfl); (case hb => (simp [dstB]; with_reducible rfl)); (case hv => ((fail_if_success (with_reducible exact (rfl : (_ : AV) = AV.d (.val (.bool true)) _))); (fail_if_success (with_reducible exact (rfl : (_ : AV) = AV.d (.val (.bool false)) _))); rfl)); skip)
 | (apply WP_cond; (case hx => (simp [St.eval, dstB, a0, a3, a6, o3, hown, h23, sp23, decX, xt_eta, h25, sp25, decL_enc, hfew, htk, hm1, hml1, h29, sp29, List.filter_cons, Xt.enc, ha, h60, hne, List.map_nil]; with_reducible rfl)); (case hv => rfl); skip))
            all_goals simp [Fin1, resVals, ownOf, FinList1, FinOne1, FinWr1, nodupB, Try.results9, out9, out29, outErr, hc, he, hi, hm, clashX, ha, h60, hne, hml1, hown, valRow_enc, evStep, evPure]
end Go.Dv
