/-
  DERIVED, MY OWN. A part of the proof of ExtentBlocks: see the last text (Row).
-/
import Derived.Test.YteldlckmleblkaaFx
import Derived.Test.YteldlckmleblkaaXt
set_option linter.all false
/-
  DERIVED, MY OWN. THE WALKS OF extent.end, last, may, goes, part.
-/


set_option autoImplicit false
set_option maxRecDepth 20000
set_option linter.unusedSimpArgs false
set_option linter.unusedVariables false
namespace Go.Dv
open Go Go.RowKit Go.Proofs

def D0 : Dep := fun _ => (0, [])
def D24 : Dep := fun
  | 1 => (20, [[], [0], [], [2], [0, 1, 2, 3], [0, 1, 2, 3, 4], [0, 1, 2, 3, 4, 5], [0, 1, 2, 3, 4, 5, 6], [0, 1, 2, 3, 4, 5], [0, 1, 2, 3, 4, 5, 8], [0, 1, 2, 3, 4, 5, 6, 7, 8, 9], [0, 1, 2, 3, 4, 5, 6, 7, 8, 9, 10], [0, 1, 2, 3, 4, 5, 6, 7, 8, 9, 10, 11], [0, 1, 2, 3, 4, 5, 6, 7, 8, 9, 10, 11, 12], [0, 1, 2, 3, 4, 5, 6, 7, 8, 9, 10, 11, 12, 13], [0, 1, 2, 3, 4, 5, 6, 7, 8, 9, 10, 11, 12], [0, 1, 2, 3, 4, 5, 6, 7, 8, 9, 10, 11, 12, 15], [0, 1, 2, 3, 4, 5, 6, 7, 8, 9, 10, 11, 12, 13, 14, 15, 16], [0, 1, 2, 3, 4, 5, 6, 7, 8, 9, 10, 11, 12, 13, 14, 15, 16, 17], [0, 1, 2, 3, 4, 5, 6, 7, 8, 9, 10, 11, 12, 13, 14, 15, 16, 17, 18]])
  | _ => (0, [])
theorem mix10 : Try.prog.follows .mixedOrders = true := by kernel_rfl

theorem ok23 : FOk Try.prog 23 sp23 := by
  intro ins out h
  obtain ⟨⟨a, s, l, u⟩, rfl, rfl⟩ := sp23_inv h
  refine at_of_body (D := D0) tblOk_empty mix10 Try.func23 rfl (by simp [Try.ntmps23]) (fun ty => ?_)
  simp only [Xt.enc, endX]
  repeat' (first
 | (intro h; first | (exfalso; exact Bool.noConfusion h) | (simp only [decide_eq_true_eq, decide_eq_false_iff_not] at h) | skip)
 | (apply evOps_fin; (case hf => (simp only [finGo, app1]; rfl)); skip)
 | refine WP_seq ?_
 | refine WP_scope ?_
 | refine WP_block ?_
 | refine WP_ret ?_
 | refine WP_skip ?_
 | refine WP_exit ?_
 | (apply WP_region; (case hl => rfl); (case hc => (simp only [put_env', put_own', put_ctr', put_none', setOwn_env', setOwn_own', setOwn_ctr', setCtr_env', setCtr_own', setCtr_ctr', entry, entryEnv, entryOwn, inAV, scAV, inOB]; rfl)); (case hc' => (conv => lhs; simp only [List.size_toArray, List.length_cons, List.length_nil, Nat.zero_add, Nat.reduceAdd, Nat.add_assoc])); skip)
 | (apply WP_draw; (case hl => rfl); (case hds => (simp only [List.map_cons, List.map_nil]; rfl)); (case hc => (simp only [put_env', put_own', put_ctr', put_none', setOwn_env', setOwn_own', setOwn_ctr', setCtr_env', setCtr_own', setCtr_ctr', entry, entryEnv, entryOwn, inAV, scAV, inOB]; rfl)); (case hc' => (conv => lhs; simp only [List.size_toArray, List.length_cons, List.length_nil, Nat.zero_add, Nat.reduceAdd, Nat.add_assoc])); (case hD => rfl); (case hb => kernel_rfl); (case h1 => (simp only [List.take_succ_cons, List.take_zero]; rfl)); (case h2 => (simp only [List.drop_succ_cons, List.drop_zero]; rfl)); (case h3 => (simp only [List.take_succ_cons, List.take_zero]; rfl)); intro had; skip)
 | refine evOps_nil ?_
 | refine evQ_nil ?_
 | (apply evQ_one; (case had => assumption); (case hg => rfl); (case hd => (simp [dstB]; done)); (case h => (simp [evQuiet, evCallQ, known, njk, AV.isJunk, Op.operands, Call.operands, evEff, evStep, evPure]; with_reducible rfl)); (case hs => (simp; done)); (case hR => (simp only [List.nil_append, List.cons_append]; rfl)); skip)
 | (apply evQ_yes; (case had => assumption); (case hg => rfl); (case hb => (simp [gval, evEff, dstB]; done)); (case hd => (simp [dstB]; done)); (case h => (simp [evQuiet, evCallQ, known, njk, AV.isJunk, Op.operands, Call.operands, evEff, evStep, evPure]; with_reducible rfl)); (case hs => (simp; done)); (case hR => (simp only [List.nil_append, List.cons_append]; rfl)); skip)
 | (apply evQ_no; (case had => assumption); (case hg => rfl); (case hb => (simp [gval, evEff, dstB]; with_reducible rfl)); (case hne => (simp; done)); (case hd => (simp [dstB]; done)); (case hR => (simp only [List.nil_append, List.cons_append]; rfl)); skip)
 | (apply evQ_split; (case hg => rfl); (case hb => (simp only [List.getElem?_cons_succ, List.getElem?_cons_zero]; rfl)); (case hv => ((fail_if_success (with_reducible exact (rfl : (_ : QR) = (AV.d (.val (.bool true)) _, none)))); (fail_if_success (with_reducible exact (rfl : (_ : QR) = (AV.d (.val (.bool false)) _, none)))); rfl)); (case hT => (simp only [List.set_cons_succ, List.set_cons_zero]; rfl)); (case hF => (simp only [List.set_cons_succ, List.set_cons_zero]; rfl)); skip)
 | (apply evOps_one; (case hg => rfl); (case h => (simp [evStep, evPure]; with_reducible rfl)); skip)
 | (apply evOps_yes; (case hg => rfl); (case hb => (simp [gval, dstB]; done)); (case h => (simp [evStep, evPure]; with_reducible rfl)); skip)
 | (apply evOps_no; (case hg => rfl); (case hb => (simp [gval, dstB]; with_reducible rfl)); (case hne => (simp; done)); (case hd => (simp [dstB]; done)); skip)
 | (apply evOps_big; (case hg => rfl); (case hd => (simp [dstB]; done)); (case hb => (simp [evBig, evStep, evPure]; with_reducible rfl)); skip)
 | (apply evOps_bigYes; (case hg => rfl); (case hgv => (simp [gval, dstB]; done)); (case hd => (simp [dstB]; done)); (case hb => (simp [evBig, evStep, evPure]; with_reducible rfl)); skip)
 | (apply evOps_split; (case _hg => rfl); (case _ht => rfl); (case hb => (simp [dstB]; with_reducible rfl)); (case hv => ((fail_if_success (with_reducible exact (rfl : (_ : AV) = AV.d (.val (.bool true)) _))); (fail_if_success (with_reducible exact (rfl : (_ : AV) = AV.d (.val (.bool false)) _))); rfl)); skip)
 | (apply WP_cond; (case hx => (simp [St.eval, dstB]; with_reducible rfl)); (case hv => rfl); skip))
  all_goals simp [Fin1, resVals, ownOf, FinList1, FinOne1, FinWr1, nodupB, Try.results23, evStep, evPure]
theorem ok50 : FOk Try.prog 50 sp50 := by
  intro ins out h
  obtain ⟨⟨a, s, l, u⟩, rfl, rfl⟩ := sp50_inv h
  refine at_of_body (D := D0) tblOk_empty mix10 Try.func50 rfl (by simp [Try.ntmps50]) (fun ty => ?_)
  simp only [Xt.enc, lastX]
  repeat' (first
 | (intro h; first | (exfalso; exact Bool.noConfusion h) | (simp only [decide_eq_true_eq, decide_eq_false_iff_not] at h) | skip)
 | (apply evOps_fin; (case hf => (simp only [finGo, app1]; rfl)); skip)
 | refine WP_seq ?_
 | refine WP_scope ?_
 | refine WP_block ?_
 | refine WP_ret ?_
 | refine WP_skip ?_
 | refine WP_exit ?_
 | (apply WP_region; (case hl => rfl); (case hc => (simp only [put_env', put_own', put_ctr', put_none', setOwn_env', setOwn_own', setOwn_ctr', setCtr_env', setCtr_own', setCtr_ctr', entry, entryEnv, entryOwn, inAV, scAV, inOB]; rfl)); (case hc' => (conv => lhs; simp only [List.size_toArray, List.length_cons, List.length_nil, Nat.zero_add, Nat.reduceAdd, Nat.add_assoc])); skip)
 | (apply WP_draw; (case hl => rfl); (case hds => (simp only [List.map_cons, List.map_nil]; rfl)); (case hc => (simp only [put_env', put_own', put_ctr', put_none', setOwn_env', setOwn_own', setOwn_ctr', setCtr_env', setCtr_own', setCtr_ctr', entry, entryEnv, entryOwn, inAV, scAV, inOB]; rfl)); (case hc' => (conv => lhs; simp only [List.size_toArray, List.length_cons, List.length_nil, Nat.zero_add, Nat.reduceAdd, Nat.add_assoc])); (case hD => rfl); (case hb => kernel_rfl); (case h1 => (simp only [List.take_succ_cons, List.take_zero]; rfl)); (case h2 => (simp only [List.drop_succ_cons, List.drop_zero]; rfl)); (case h3 => (simp only [List.take_succ_cons, List.take_zero]; rfl)); intro had; skip)
 | refine evOps_nil ?_
 | refine evQ_nil ?_
 | (apply evQ_one; (case had => assumption); (case hg => rfl); (case hd => (simp [dstB]; done)); (case h => (simp [evQuiet, evCallQ, known, njk, AV.isJunk, Op.operands, Call.operands, evEff, evStep, evPure]; with_reducible rfl)); (case hs => (simp; done)); (case hR => (simp only [List.nil_append, List.cons_append]; rfl)); skip)
 | (apply evQ_yes; (case had => assumption); (case hg => rfl); (case hb => (simp [gval, evEff, dstB]; done)); (case hd => (simp [dstB]; done)); (case h => (simp [evQuiet, evCallQ, known, njk, AV.isJunk, Op.operands, Call.operands, evEff, evStep, evPure]; with_reducible rfl)); (case hs => (simp; done)); (case hR => (simp only [List.nil_append, List.cons_append]; rfl)); skip)
 | (apply evQ_no; (case had => assumption); (case hg => rfl); (case hb => (simp [gval, evEff, dstB]; with_reducible rfl)); (case hne => (simp; done)); (case hd => (simp [dstB]; done)); (case hR => (simp only [List.nil_append, List.cons_append]; rfl)); skip)
 | (apply evQ_split; (case hg => rfl); (case hb => (simp only [List.getElem?_cons_succ, List.getElem?_cons_zero]; rfl)); (case hv => ((fail_if_success (with_reducible exact (rfl : (_ : QR) = (AV.d (.val (.bool true)) _, none)))); (fail_if_success (with_reducible exact (rfl : (_ : QR) = (AV.d (.val (.bool false)) _, none)))); rfl)); (case hT => (simp only [List.set_cons_succ, List.set_cons_zero]; rfl)); (case hF => (simp only [List.set_cons_succ, List.set_cons_zero]; rfl)); skip)
 | (apply evOps_one; (case hg => rfl); (case h => (simp [evStep, evPure]; with_reducible rfl)); skip)
 | (apply evOps_yes; (case hg => rfl); (case hb => (simp [gval, dstB]; done)); (case h => (simp [evStep, evPure]; with_reducible rfl)); skip)
 | (apply evOps_no; (case hg => rfl); (case hb => (simp [gval, dstB]; with_reducible rfl)); (case hne => (simp; done)); (case hd => (simp [dstB]; done)); skip)
 | (apply evOps_big; (case hg => rfl); (case hd => (simp [dstB]; done)); (case hb => (simp [evBig, evStep, evPure]; with_reducible rfl)); skip)
 | (apply evOps_bigYes; (case hg => rfl); (case hgv => (simp [gval, dstB]; done)); (case hd => (simp [dstB]; done)); (case hb => (simp [evBig, evStep, evPure]; with_reducible rfl)); skip)
 | (apply evOps_split; (case _hg => rfl); (case _ht => rfl); (case hb => (simp [dstB]; with_reducible rfl)); (case hv => ((fail_if_success (with_reducible exact (rfl : (_ : AV) = AV.d (.val (.bool true)) _))); (fail_if_success (with_reducible exact (rfl : (_ : AV) = AV.d (.val (.bool false)) _))); rfl)); skip)
 | (apply WP_cond; (case hx => (simp [St.eval, dstB]; with_reducible rfl)); (case hv => rfl); skip))
  all_goals simp [Fin1, resVals, ownOf, FinList1, FinOne1, FinWr1, nodupB, Try.results50, evStep, evPure]

def T1 : Tbl := (Tbl.empty.add 23 sp23).add 50 sp50
theorem T1_ok : TblOk' Try.prog T1 := (tblOk_empty.add Try.call23 ok23).add Try.call50 ok50
theorem T1_23 : T1 23 = some sp23 := rfl
theorem T1_50 : T1 50 = some sp50 := rfl

theorem ok22 : FOk Try.prog 22 sp22 := by
  intro ins out h
  obtain ⟨⟨a, s, l, u⟩, rfl, rfl⟩ := sp22_inv h
  refine at_of_body (D := D0) T1_ok mix10 Try.func22 rfl (by simp [Try.ntmps22]) (fun ty => ?_)
  simp only [Xt.enc]
  repeat' (first
 | (intro h; first | (exfalso; exact Bool.noConfusion h) | (simp only [decide_eq_true_eq, decide_eq_false_iff_not] at h) | skip)
 | (apply evOps_fin; (case hf => (simp only [finGo, app1]; rfl)); skip)
 | refine WP_seq ?_
 | refine WP_scope ?_
 | refine WP_block ?_
 | refine WP_ret ?_
 | refine WP_skip ?_
 | refine WP_exit ?_
 | (apply WP_region; (case hl => rfl); (case hc => (simp only [put_env', put_own', put_ctr', put_none', setOwn_env', setOwn_own', setOwn_ctr', setCtr_env', setCtr_own', setCtr_ctr', entry, entryEnv, entryOwn, inAV, scAV, inOB]; rfl)); (case hc' => (conv => lhs; simp only [List.size_toArray, List.length_cons, List.length_nil, Nat.zero_add, Nat.reduceAdd, Nat.add_assoc])); skip)
 | (apply WP_draw; (case hl => rfl); (case hds => (simp only [List.map_cons, List.map_nil]; rfl)); (case hc => (simp only [put_env', put_own', put_ctr', put_none', setOwn_env', setOwn_own', setOwn_ctr', setCtr_env', setCtr_own', setCtr_ctr', entry, entryEnv, entryOwn, inAV, scAV, inOB]; rfl)); (case hc' => (conv => lhs; simp only [List.size_toArray, List.length_cons, List.length_nil, Nat.zero_add, Nat.reduceAdd, Nat.add_assoc])); (case hD => rfl); (case hb => kernel_rfl); (case h1 => (simp only [List.take_succ_cons, List.take_zero]; rfl)); (case h2 => (simp only [List.drop_succ_cons, List.drop_zero]; rfl)); (case h3 => (simp only [List.take_succ_cons, List.take_zero]; rfl)); intro had; skip)
 | refine evOps_nil ?_
 | refine evQ_nil ?_
 | (apply evQ_one; (case had => assumption); (case hg => rfl); (case hd => (simp [dstB]; done)); (case h => (simp [evQuiet, evCallQ, known, njk, AV.isJunk, Op.operands, Call.operands, evEff, evStep, evPure, T1_23, T1_50, sp23, sp50, decX]; with_reducible rfl)); (case hs => (simp; done)); (case hR => (simp only [List.nil_append, List.cons_append]; rfl)); skip)
 | (apply evQ_yes; (case had => assumption); (case hg => rfl); (case hb => (simp [gval, evEff, dstB, T1_23, T1_50, sp23, sp50, decX]; done)); (case hd => (simp [dstB]; done)); (case h => (simp [evQuiet, evCallQ, known, njk, AV.isJunk, Op.operands, Call.operands, evEff, evStep, evPure, T1_23, T1_50, sp23, sp50, decX]; with_reducible rfl)); (case hs => (simp; done)); (case hR => (simp only [List.nil_append, List.cons_append]; rfl)); skip)
 | (apply evQ_no; (case had => assumption); (case hg => rfl); (case hb => (simp [gval, evEff, dstB, T1_23, T1_50, sp23, sp50, decX]; with_reducible rfl)); (case hne => (simp; done)); (case hd => (simp [dstB]; done)); (case hR => (simp only [List.nil_append, List.cons_append]; rfl)); skip)
 | (apply evQ_split; (case hg => rfl); (case hb => (simp only [List.getElem?_cons_succ, List.getElem?_cons_zero]; rfl)); (case hv => ((fail_if_success (with_reducible exact (rfl : (_ : QR) = (AV.d (.val (.bool true)) _, none)))); (fail_if_success (with_reducible exact (rfl : (_ : QR) = (AV.d (.val (.bool false)) _, none)))); rfl)); (case hT => (simp only [List.set_cons_succ, List.set_cons_zero]; rfl)); (case hF => (simp only [List.set_cons_succ, List.set_cons_zero]; rfl)); skip)
 | (apply evOps_one; (case hg => rfl); (case h => (simp [evStep, evPure, T1_23, T1_50, sp23, sp50, decX]; with_reducible rfl)); skip)
 | (apply evOps_yes; (case hg => rfl); (case hb => (simp [gval, dstB, T1_23, T1_50, sp23, sp50, decX]; done)); (case h => (simp [evStep, evPure, T1_23, T1_50, sp23, sp50, decX]; with_reducible rfl)); skip)
 | (apply evOps_no; (case hg => rfl); (case hb => (simp [gval, dstB, T1_23, T1_50, sp23, sp50, decX]; with_reducible rfl)); (case hne => (simp; done)); (case hd => (simp [dstB]; done)); skip)
 | (apply evOps_big; (case hg => rfl); (case hd => (simp [dstB]; done)); (case hb => (simp [evBig, evStep, evPure, T1_23, T1_50, sp23, sp50, decX]; with_reducible rfl)); skip)
 | (apply evOps_bigYes; (case hg => rfl); (case hgv => (simp [gval, dstB, T1_23, T1_50, sp23, sp50, decX]; done)); (case hd => (simp [dstB]; done)); (case hb => (simp [evBig, evStep, evPure, T1_23, T1_50, sp23, sp50, decX]; with_reducible rfl)); skip)
 | (apply evOps_split; (case _hg => rfl); (case _ht => rfl); (case hb => (simp [dstB]; with_reducible rfl)); (case hv => ((fail_if_success (with_reducible exact (rfl : (_ : AV) = AV.d (.val (.bool true)) _))); (fail_if_success (with_reducible exact (rfl : (_ : AV) = AV.d (.val (.bool false)) _))); rfl)); skip)
 | (apply WP_cond; (case hx => (simp [St.eval, dstB, T1_23, T1_50, sp23, sp50, decX]; with_reducible rfl)); (case hv => rfl); skip))
  all_goals simp [Fin1, resVals, ownOf, FinList1, FinOne1, FinWr1, nodupB, Try.results22, mayX, evStep, evPure]
  all_goals first | omega | simp [*]
theorem ok24 : FOk Try.prog 24 sp24 := by
  intro ins out h
  obtain ⟨⟨a, s, l, u⟩, ⟨a', s', l', u'⟩, rfl, rfl⟩ := sp24_inv h
  refine at_of_body (D := D24) T1_ok mix10 Try.func24 rfl (by simp [Try.ntmps24]) (fun ty => ?_)
  simp only [Xt.enc]
  repeat' (first
 | (intro h; first | (exfalso; exact Bool.noConfusion h) | (simp only [decide_eq_true_eq, decide_eq_false_iff_not] at h) | skip)
 | (apply evOps_fin; (case hf => (simp only [finGo, app1]; rfl)); skip)
 | refine WP_seq ?_
 | refine WP_scope ?_
 | refine WP_block ?_
 | refine WP_ret ?_
 | refine WP_skip ?_
 | refine WP_exit ?_
 | (apply WP_region; (case hl => rfl); (case hc => (simp only [put_env', put_own', put_ctr', put_none', setOwn_env', setOwn_own', setOwn_ctr', setCtr_env', setCtr_own', setCtr_ctr', entry, entryEnv, entryOwn, inAV, scAV, inOB]; rfl)); (case hc' => (conv => lhs; simp only [List.size_toArray, List.length_cons, List.length_nil, Nat.zero_add, Nat.reduceAdd, Nat.add_assoc])); skip)
 | (apply WP_draw; (case hl => rfl); (case hds => (simp only [List.map_cons, List.map_nil]; rfl)); (case hc => (simp only [put_env', put_own', put_ctr', put_none', setOwn_env', setOwn_own', setOwn_ctr', setCtr_env', setCtr_own', setCtr_ctr', entry, entryEnv, entryOwn, inAV, scAV, inOB]; rfl)); (case hc' => (conv => lhs; simp only [List.size_toArray, List.length_cons, List.length_nil, Nat.zero_add, Nat.reduceAdd, Nat.add_assoc])); (case hD => rfl); (case hb => kernel_rfl); (case h1 => (simp only [List.take_succ_cons, List.take_zero]; rfl)); (case h2 => (simp only [List.drop_succ_cons, List.drop_zero]; rfl)); (case h3 => (simp only [List.take_succ_cons, List.take_zero]; rfl)); intro had; skip)
 | refine evOps_nil ?_
 | refine evQ_nil ?_
 | (apply evQ_one; (case had => assumption); (case hg => rfl); (case hd => (simp [dstB]; done)); (case h => (simp [evQuiet, evCallQ, known, njk, AV.isJunk, Op.operands, Call.operands, evEff, evStep, evPure, T1_23, T1_50, sp23, sp50, decX]; with_reducible rfl)); (case hs => (simp; done)); (case hR => (simp only [List.nil_append, List.cons_append]; rfl)); skip)
 | (apply evQ_yes; (case had => assumption); (case hg => rfl); (case hb => (simp [gval, evEff, dstB, T1_23, T1_50, sp23, sp50, decX]; done)); (case hd => (simp [dstB]; done)); (case h => (simp [evQuiet, evCallQ, known, njk, AV.isJunk, Op.operands, Call.operands, evEff, evStep, evPure, T1_23, T1_50, sp23, sp50, decX]; with_reducible rfl)); (case hs => (simp; done)); (case hR => (simp only [List.nil_append, List.cons_append]; rfl)); skip)
 | (apply evQ_no; (case had => assumption); (case hg => rfl); (case hb => (simp [gval, evEff, dstB, T1_23, T1_50, sp23, sp50, decX]; with_reducible rfl)); (case hne => (simp; done)); (case hd => (simp [dstB]; done)); (case hR => (simp only [List.nil_append, List.cons_append]; rfl)); skip)
 | (apply evQ_split; (case hg => rfl); (case hb => (simp only [List.getElem?_cons_succ, List.getElem?_cons_zero]; rfl)); (case hv => ((fail_if_success (with_reducible exact (rfl : (_ : QR) = (AV.d (.val (.bool true)) _, none)))); (fail_if_success (with_reducible exact (rfl : (_ : QR) = (AV.d (.val (.bool false)) _, none)))); rfl)); (case hT => (simp only [List.set_cons_succ, List.set_cons_zero]; rfl)); (case hF => (simp only [List.set_cons_succ, List.set_cons_zero]; rfl)); skip)
 | (apply evOps_one; (case hg => rfl); (case h => (simp [evStep, evPure, T1_23, T1_50, sp23, sp50, decX]; with_reducible rfl)); skip)
 | (apply evOps_yes; (case hg => rfl); (case hb => (simp [gval, dstB, T1_23, T1_50, sp23, sp50, decX]; done)); (case h => (simp [evStep, evPure, T1_23, T1_50, sp23, sp50, decX]; with_reducible rfl)); skip)
 | (apply evOps_no; (case hg => rfl); (case hb => (simp [gval, dstB, T1_23, T1_50, sp23, sp50, decX]; with_reducible rfl)); (case hne => (simp; done)); (case hd => (simp [dstB]; done)); skip)
 | (apply evOps_big; (case hg => rfl); (case hd => (simp [dstB]; done)); (case hb => (simp [evBig, evStep, evPure, T1_23, T1_50, sp23, sp50, decX]; with_reducible rfl)); skip)
 | (apply evOps_bigYes; (case hg => rfl); (case hgv => (simp [gval, dstB, T1_23, T1_50, sp23, sp50, decX]; done)); (case hd => (simp [dstB]; done)); (case hb => (simp [evBig, evStep, evPure, T1_23, T1_50, sp23, sp50, decX]; with_reducible rfl)); skip)
 | (apply evOps_split; (case _hg => rfl); (case _ht => rfl); (case hb => (simp [dstB]; with_reducible rfl)); (case hv => ((fail_if_success (with_reducible exact (rfl : (_ : AV) = AV.d (.val (.bool true)) _))); (fail_if_success (with_reducible exact (rfl : (_ : AV) = AV.d (.val (.bool false)) _))); rfl)); skip)
 | (apply WP_cond; (case hx => (simp [St.eval, dstB, T1_23, T1_50, sp23, sp50, decX]; with_reducible rfl)); (case hv => rfl); skip))
  all_goals simp [Fin1, resVals, ownOf, FinList1, FinOne1, FinWr1, nodupB, Try.results24, goesX, finGo, app1, evStep, evPure]
  all_goals simp [*]
theorem ok56 : FOk Try.prog 56 sp56 := by
  intro ins out h
  obtain ⟨⟨a, s, l, u⟩, p, q, rfl, rfl⟩ := sp56_inv h
  refine at_of_body (D := D0) tblOk_empty mix10 Try.func56 rfl (by simp [Try.ntmps56]) (fun ty => ?_)
  simp only [Xt.enc, partX]
  repeat' (first
 | (intro h; first | (exfalso; exact Bool.noConfusion h) | (simp only [decide_eq_true_eq, decide_eq_false_iff_not] at h) | skip)
 | (apply evOps_fin; (case hf => (simp only [finGo, app1]; rfl)); skip)
 | refine WP_seq ?_
 | refine WP_scope ?_
 | refine WP_block ?_
 | refine WP_ret ?_
 | refine WP_skip ?_
 | refine WP_exit ?_
 | (apply WP_region; (case hl => rfl); (case hc => (simp only [put_env', put_own', put_ctr', put_none', setOwn_env', setOwn_own', setOwn_ctr', setCtr_env', setCtr_own', setCtr_ctr', entry, entryEnv, entryOwn, inAV, scAV, inOB]; rfl)); (case hc' => (conv => lhs; simp only [List.size_toArray, List.length_cons, List.length_nil, Nat.zero_add, Nat.reduceAdd, Nat.add_assoc])); skip)
 | (apply WP_draw; (case hl => rfl); (case hds => (simp only [List.map_cons, List.map_nil]; rfl)); (case hc => (simp only [put_env', put_own', put_ctr', put_none', setOwn_env', setOwn_own', setOwn_ctr', setCtr_env', setCtr_own', setCtr_ctr', entry, entryEnv, entryOwn, inAV, scAV, inOB]; rfl)); (case hc' => (conv => lhs; simp only [List.size_toArray, List.length_cons, List.length_nil, Nat.zero_add, Nat.reduceAdd, Nat.add_assoc])); (case hD => rfl); (case hb => kernel_rfl); (case h1 => (simp only [List.take_succ_cons, List.take_zero]; rfl)); (case h2 => (simp only [List.drop_succ_cons, List.drop_zero]; rfl)); (case h3 => (simp only [List.take_succ_cons, List.take_zero]; rfl)); intro had; skip)
 | refine evOps_nil ?_
 | refine evQ_nil ?_
 | (apply evQ_one; (case had => assumption); (case hg => rfl); (case hd => (simp [dstB]; done)); (case h => (simp [evQuiet, evCallQ, known, njk, AV.isJunk, Op.operands, Call.operands, evEff, evStep, evPure, buildPlace]; with_reducible rfl)); (case hs => (simp; done)); (case hR => (simp only [List.nil_append, List.cons_append]; rfl)); skip)
 | (apply evQ_yes; (case had => assumption); (case hg => rfl); (case hb => (simp [gval, evEff, dstB, buildPlace]; done)); (case hd => (simp [dstB]; done)); (case h => (simp [evQuiet, evCallQ, known, njk, AV.isJunk, Op.operands, Call.operands, evEff, evStep, evPure, buildPlace]; with_reducible rfl)); (case hs => (simp; done)); (case hR => (simp only [List.nil_append, List.cons_append]; rfl)); skip)
 | (apply evQ_no; (case had => assumption); (case hg => rfl); (case hb => (simp [gval, evEff, dstB, buildPlace]; with_reducible rfl)); (case hne => (simp; done)); (case hd => (simp [dstB]; done)); (case hR => (simp only [List.nil_append, List.cons_append]; rfl)); skip)
 | (apply evQ_split; (case hg => rfl); (case hb => (simp only [List.getElem?_cons_succ, List.getElem?_cons_zero]; rfl)); (case hv => ((fail_if_success (with_reducible exact (rfl : (_ : QR) = (AV.d (.val (.bool true)) _, none)))); (fail_if_success (with_reducible exact (rfl : (_ : QR) = (AV.d (.val (.bool false)) _, none)))); rfl)); (case hT => (simp only [List.set_cons_succ, List.set_cons_zero]; rfl)); (case hF => (simp only [List.set_cons_succ, List.set_cons_zero]; rfl)); skip)
 | (apply evOps_one; (case hg => rfl); (case h => (simp [evStep, evPure, buildPlace]; with_reducible rfl)); skip)
 | (apply evOps_yes; (case hg => rfl); (case hb => (simp [gval, dstB, buildPlace]; done)); (case h => (simp [evStep, evPure, buildPlace]; with_reducible rfl)); skip)
 | (apply evOps_no; (case hg => rfl); (case hb => (simp [gval, dstB, buildPlace]; with_reducible rfl)); (case hne => (simp; done)); (case hd => (simp [dstB]; done)); skip)
 | (apply evOps_big; (case hg => rfl); (case hd => (simp [dstB]; done)); (case hb => (simp [evBig, evStep, evPure, buildPlace]; with_reducible rfl)); skip)
 | (apply evOps_bigYes; (case hg => rfl); (case hgv => (simp [gval, dstB, buildPlace]; done)); (case hd => (simp [dstB]; done)); (case hb => (simp [evBig, evStep, evPure, buildPlace]; with_reducible rfl)); skip)
 | (apply evOps_split; (case _hg => rfl); (case _ht => rfl); (case hb => (simp [dstB]; with_reducible rfl)); (case hv => ((fail_if_success (with_reducible exact (rfl : (_ : AV) = AV.d (.val (.bool true)) _))); (fail_if_success (with_reducible exact (rfl : (_ : AV) = AV.d (.val (.bool false)) _))); rfl)); skip)
 | (apply WP_cond; (case hx => (simp [St.eval, dstB, buildPlace]; with_reducible rfl)); (case hv => rfl); skip))
  all_goals simp [Fin1, resVals, ownOf, FinList1, FinOne1, FinWr1, nodupB, Try.results56, evStep, evPure]
end Go.Dv

/-
  DERIVED, MY OWN. THE WALK OF extent.apart.
-/


set_option autoImplicit false
set_option maxRecDepth 20000
set_option linter.unusedSimpArgs false
set_option linter.unusedVariables false
namespace Go.Dv
open Go Go.RowKit Go.Proofs

def D25 : Dep := fun
  | 10 => (9, [[], [0], [0, 1], [0, 1, 2], [], [4], [4, 5], [0, 1, 2, 3, 4, 5, 6], [0, 1, 2, 3, 4, 5, 6, 7], [0, 1, 2, 3, 4, 5, 6, 7, 8]])
  | _ => (0, [])

set_option maxHeartbeats 4000000 in
theorem ok25 {T : Tbl} (hT : TblOk' Try.prog T) (h50 : T 50 = some sp50) : FOk Try.prog 25 sp25 := by
  intro ins out h
  obtain ⟨n, l, rfl, hm, hlen, rfl⟩ := sp25_inv h
  clear h
  refine at_of_body (D := D25) hT mix10 Try.func25 rfl (by simp [Try.ntmps25]) (fun ty => ?_)
  repeat' (first
 | (intro h; first | (exfalso; exact Bool.noConfusion h) | (simp only [decide_eq_true_eq, decide_eq_false_iff_not] at h) | skip)
 | (apply evOps_fin; (case hf => (simp only [finGo, app1]; rfl)); skip)
 | refine WP_seq ?_
 | refine WP_scope ?_
 | refine WP_block ?_
 | refine WP_ret ?_
 | refine WP_skip ?_
 | refine WP_exit ?_
 | (apply WP_region; (case hl => rfl); (case hc => (simp only [put_env', put_own', put_ctr', put_none', setOwn_env', setOwn_own', setOwn_ctr', setCtr_env', setCtr_own', setCtr_ctr', entry, entryEnv, entryOwn, inAV, scAV, inOB]; rfl)); (case hc' => (conv => lhs; simp only [List.size_toArray, List.length_cons, List.length_nil, Nat.zero_add, Nat.reduceAdd, Nat.add_assoc])); skip)
 | (apply WP_draw; (case hl => rfl); (case hds => (simp only [List.map_cons, List.map_nil]; rfl)); (case hc => (simp only [put_env', put_own', put_ctr', put_none', setOwn_env', setOwn_own', setOwn_ctr', setCtr_env', setCtr_own', setCtr_ctr', entry, entryEnv, entryOwn, inAV, scAV, inOB]; rfl)); (case hc' => (conv => lhs; simp only [List.size_toArray, List.length_cons, List.length_nil, Nat.zero_add, Nat.reduceAdd, Nat.add_assoc])); (case hD => rfl); (case hb => kernel_rfl); (case h1 => (simp only [List.take_succ_cons, List.take_zero]; rfl)); (case h2 => (simp only [List.drop_succ_cons, List.drop_zero]; rfl)); (case h3 => (simp only [List.take_succ_cons, List.take_zero]; rfl)); intro had; skip)
 | refine evOps_nil ?_
 | refine evQ_nil ?_
 | (apply evQ_one; (case had => assumption); (case hg => rfl); (case hd => (simp [dstB]; done)); (case h => (simp [evQuiet, evCallQ, known, njk, AV.isJunk, Op.operands, Call.operands, evEff, evStep, evPure]; with_reducible rfl)); (case hs => (simp; done)); (case hR => (simp only [List.nil_append, List.cons_append]; rfl)); skip)
 | (apply evQ_yes; (case had => assumption); (case hg => rfl); (case hb => (simp [gval, evEff, dstB]; done)); (case hd => (simp [dstB]; done)); (case h => (simp [evQuiet, evCallQ, known, njk, AV.isJunk, Op.operands, Call.operands, evEff, evStep, evPure]; with_reducible rfl)); (case hs => (simp; done)); (case hR => (simp only [List.nil_append, List.cons_append]; rfl)); skip)
 | (apply evQ_no; (case had => assumption); (case hg => rfl); (case hb => (simp [gval, evEff, dstB]; with_reducible rfl)); (case hne => (simp; done)); (case hd => (simp [dstB]; done)); (case hR => (simp only [List.nil_append, List.cons_append]; rfl)); skip)
 | (apply evQ_split; (case hg => rfl); (case hb => (simp only [List.getElem?_cons_succ, List.getElem?_cons_zero]; rfl)); (case hv => ((fail_if_success (with_reducible exact (rfl : (_ : QR) = (AV.d (.val (.bool true)) _, none)))); (fail_if_success (with_reducible exact (rfl : (_ : QR) = (AV.d (.val (.bool false)) _, none)))); rfl)); (case hT => (simp only [List.set_cons_succ, List.set_cons_zero]; rfl)); (case hF => (simp only [List.set_cons_succ, List.set_cons_zero]; rfl)); skip)
 | (apply evOps_one; (case hg => rfl); (case h => (simp [evStep, evPure]; with_reducible rfl)); skip)
 | (apply evOps_yes; (case hg => rfl); (case hb => (simp [gval, dstB]; done)); (case h => (simp [evStep, evPure]; with_reducible rfl)); skip)
 | (apply evOps_no; (case hg => rfl); (case hb => (simp [gval, dstB]; with_reducible rfl)); (case hne => (simp; done)); (case hd => (simp [dstB]; done)); skip)
 | (apply evOps_big; (case hg => rfl); (case hd => (simp [dstB]; done)); (case hb => (simp [evBig, evStep, evPure]; with_reducible rfl)); skip)
 | (apply evOps_bigYes; (case hg => rfl); (case hgv => (simp [gval, dstB]; done)); (case hd => (simp [dstB]; done)); (case hb => (simp [evBig, evStep, evPure]; with_reducible rfl)); skip)
 | (apply evOps_split; (case _hg => rfl); (case _ht => rfl); (case hb => (simp [dstB]; with_reducible rfl)); (case hv => ((fail_if_success (with_reducible exact (rfl : (_ : AV) = AV.d (.val (.bool true)) _))); (fail_if_success (with_reducible exact (rfl : (_ : AV) = AV.d (.val (.bool false)) _))); rfl)); skip)
 | (apply WP_cond; (case hx => (simp [St.eval, dstB]; with_reducible rfl)); (case hv => rfl); skip))
  refine WP_loop (fun k σ1 => ∃ (i : Nat) (W : Nat → Nat) (g : Nat), i ≤ l.length ∧ k = l.length - i ∧ small W ∧ (∀ b, tk W b = true ↔ taken l i b) ∧ apartN l i ∧ σ1.env 7 = .d (.sl n (l.map Xt.enc)) false ∧ σ1.env 8 = .d (vi l.length) true ∧ σ1.env 9 = .d (vi i) true ∧ σ1.env 3 = .rp 3 g 0 0 ∧ σ1.own 3 = some (.var 83 g false (words W))) l.length (gc [3, 7, 8, 9] [3] _) (gc_forget _ _ _) ?_ ?_
  · refine ⟨0, fun _ => 0, 2, Nat.zero_le _, rfl, fun _ => by simp, fun b => ?_, apartN_zero l, ?_, ?_, ?_, ?_, ?_⟩
    · constructor
      · intro h; simp [tk] at h
      · rintro ⟨j, _, hj, _⟩; omega
    all_goals simp [gc, restrictEnv, restrictOwn, dstB]
    all_goals rfl
  · rintro k σ1 ⟨i, W, g, hil, rfl, hsm, htk, hap, h7, h8, h9, h3, o3⟩
    repeat' (first
 | (intro h; first | (exfalso; exact Bool.noConfusion h) | (simp only [decide_eq_true_eq, decide_eq_false_iff_not] at h) | skip)
 | (apply evOps_fin; (case hf => (simp only [finGo, app1]; rfl)); skip)
 | refine WP_seq ?_
 | refine WP_scope ?_
 | refine WP_block ?_
 | refine WP_ret ?_
 | refine WP_skip ?_
 | refine WP_exit ?_
 | (apply WP_region; (case hl => rfl); (case hc => (simp only [put_env', put_own', put_ctr', put_none', setOwn_env', setOwn_own', setOwn_ctr', setCtr_env', setCtr_own', setCtr_ctr', entry, entryEnv, entryOwn, inAV, scAV, inOB]; rfl)); (case hc' => (conv => lhs; simp only [List.size_toArray, List.length_cons, List.length_nil, Nat.zero_add, Nat.reduceAdd, Nat.add_assoc])); skip)
 | (apply WP_draw; (case hl => rfl); (case hds => (simp only [List.map_cons, List.map_nil]; rfl)); (case hc => (simp only [put_env', put_own', put_ctr', put_none', setOwn_env', setOwn_own', setOwn_ctr', setCtr_env', setCtr_own', setCtr_ctr', entry, entryEnv, entryOwn, inAV, scAV, inOB]; rfl)); (case hc' => (conv => lhs; simp only [List.size_toArray, List.length_cons, List.length_nil, Nat.zero_add, Nat.reduceAdd, Nat.add_assoc])); (case hD => rfl); (case hb => kernel_rfl); (case h1 => (simp only [List.take_succ_cons, List.take_zero]; rfl)); (case h2 => (simp only [List.drop_succ_cons, List.drop_zero]; rfl)); (case h3 => (simp only [List.take_succ_cons, List.take_zero]; rfl)); intro had; skip)
 | refine evOps_nil ?_
 | refine evQ_nil ?_
 | (apply evQ_one; (case had => assumption); (case hg => rfl); (case hd => (simp [dstB]; done)); (case h => (simp [evQuiet, evCallQ, known, njk, AV.isJunk, Op.operands, Call.operands, evEff, evStep, evPure, h7, h8, h9]; with_reducible rfl)); (case hs => (simp; done)); (case hR => (simp only [List.nil_append, List.cons_append]; rfl)); skip)
 | (apply evQ_yes; (case had => assumption); (case hg => rfl); (case hb => (simp [gval, evEff, dstB, h7, h8, h9]; done)); (case hd => (simp [dstB]; done)); (case h => (simp [evQuiet, evCallQ, known, njk, AV.isJunk, Op.operands, Call.operands, evEff, evStep, evPure, h7, h8, h9]; with_reducible rfl)); (case hs => (simp; done)); (case hR => (simp only [List.nil_append, List.cons_append]; rfl)); skip)
 | (apply evQ_no; (case had => assumption); (case hg => rfl); (case hb => (simp [gval, evEff, dstB, h7, h8, h9]; with_reducible rfl)); (case hne => (simp; done)); (case hd => (simp [dstB]; done)); (case hR => (simp only [List.nil_append, List.cons_append]; rfl)); skip)
 | (apply evQ_split; (case hg => rfl); (case hb => (simp only [List.getElem?_cons_succ, List.getElem?_cons_zero]; rfl)); (case hv => ((fail_if_success (with_reducible exact (rfl : (_ : QR) = (AV.d (.val (.bool true)) _, none)))); (fail_if_success (with_reducible exact (rfl : (_ : QR) = (AV.d (.val (.bool false)) _, none)))); rfl)); (case hT => (simp only [List.set_cons_succ, List.set_cons_zero]; rfl)); (case hF => (simp only [List.set_cons_succ, List.set_cons_zero]; rfl)); skip)
 | (apply evOps_one; (case hg => rfl); (case h => (simp [evStep, evPure, h7, h8, h9]; with_reducible rfl)); skip)
 | (apply evOps_yes; (case hg => rfl); (case hb => (simp [gval, dstB, h7, h8, h9]; done)); (case h => (simp [evStep, evPure, h7, h8, h9]; with_reducible rfl)); skip)
 | (apply evOps_no; (case hg => rfl); (case hb => (simp [gval, dstB, h7, h8, h9]; with_reducible rfl)); (case hne => (simp; done)); (case hd => (simp [dstB]; done)); skip)
 | (apply evOps_big; (case hg => rfl); (case hd => (simp [dstB]; done)); (case hb => (simp [evBig, evStep, evPure, h7, h8, h9]; with_reducible rfl)); skip)
 | (apply evOps_bigYes; (case hg => rfl); (case hgv => (simp [gval, dstB, h7, h8, h9]; done)); (case hd => (simp [dstB]; done)); (case hb => (simp [evBig, evStep, evPure, h7, h8, h9]; with_reducible rfl)); skip)
 | (apply evOps_split; (case _hg => rfl); (case _ht => rfl); (case hb => (simp [dstB]; with_reducible rfl)); (case hv => ((fail_if_success (with_reducible exact (rfl : (_ : AV) = AV.d (.val (.bool true)) _))); (fail_if_success (with_reducible exact (rfl : (_ : AV) = AV.d (.val (.bool false)) _))); rfl)); skip)
 | (apply WP_cond; (case hx => (simp [St.eval, dstB, h7, h8, h9]; with_reducible rfl)); (case hv => rfl); skip))
    · obtain ⟨e, he⟩ : ∃ e, l[i]? = some e := ⟨_, List.getElem?_eq_getElem h⟩
      obtain ⟨m1, m2, m3, m4, m5, m6, m7, hlast, hend⟩ := mayL_get hm he
      repeat' (first
 | (intro h; first | (exfalso; exact Bool.noConfusion h) | (simp only [decide_eq_true_eq, decide_eq_false_iff_not] at h) | skip)
 | (apply evOps_fin; (case hf => (simp only [finGo, app1]; rfl)); skip)
 | refine WP_seq ?_
 | refine WP_scope ?_
 | refine WP_block ?_
 | refine WP_ret ?_
 | refine WP_skip ?_
 | refine WP_exit ?_
 | (apply WP_region; (case hl => rfl); (case hc => (simp only [put_env', put_own', put_ctr', put_none', setOwn_env', setOwn_own', setOwn_ctr', setCtr_env', setCtr_own', setCtr_ctr', entry, entryEnv, entryOwn, inAV, scAV, inOB]; rfl)); (case hc' => (conv => lhs; simp only [List.size_toArray, List.length_cons, List.length_nil, Nat.zero_add, Nat.reduceAdd, Nat.add_assoc])); skip)
 | (apply WP_draw; (case hl => rfl); (case hds => (simp only [List.map_cons, List.map_nil]; rfl)); (case hc => (simp only [put_env', put_own', put_ctr', put_none', setOwn_env', setOwn_own', setOwn_ctr', setCtr_env', setCtr_own', setCtr_ctr', entry, entryEnv, entryOwn, inAV, scAV, inOB]; rfl)); (case hc' => (conv => lhs; simp only [List.size_toArray, List.length_cons, List.length_nil, Nat.zero_add, Nat.reduceAdd, Nat.add_assoc])); (case hD => rfl); (case hb => kernel_rfl); (case h1 => (simp only [List.take_succ_cons, List.take_zero]; rfl)); (case h2 => (simp only [List.drop_succ_cons, List.drop_zero]; rfl)); (case h3 => (simp only [List.take_succ_cons, List.take_zero]; rfl)); intro had; skip)
 | refine evOps_nil ?_
 | refine evQ_nil ?_
 | (apply evQ_one; (case had => assumption); (case hg => rfl); (case hd => (simp [dstB]; done)); (case h => (simp [evQuiet, evCallQ, known, njk, AV.isJunk, Op.operands, Call.operands, evEff, evStep, evPure, h7, h8, h9, he, Xt.enc]; with_reducible rfl)); (case hs => (simp; done)); (case hR => (simp only [List.nil_append, List.cons_append]; rfl)); skip)
 | (apply evQ_yes; (case had => assumption); (case hg => rfl); (case hb => (simp [gval, evEff, dstB, h7, h8, h9, he, Xt.enc]; done)); (case hd => (simp [dstB]; done)); (case h => (simp [evQuiet, evCallQ, known, njk, AV.isJunk, Op.operands, Call.operands, evEff, evStep, evPure, h7, h8, h9, he, Xt.enc]; with_reducible rfl)); (case hs => (simp; done)); (case hR => (simp only [List.nil_append, List.cons_append]; rfl)); skip)
 | (apply evQ_no; (case had => assumption); (case hg => rfl); (case hb => (simp [gval, evEff, dstB, h7, h8, h9, he, Xt.enc]; with_reducible rfl)); (case hne => (simp; done)); (case hd => (simp [dstB]; done)); (case hR => (simp only [List.nil_append, List.cons_append]; rfl)); skip)
 | (apply evQ_split; (case hg => rfl); (case hb => (simp only [List.getElem?_cons_succ, List.getElem?_cons_zero]; rfl)); (case hv => ((fail_if_success (with_reducible exact (rfl : (_ : QR) = (AV.d (.val (.bool true)) _, none)))); (fail_if_success (with_reducible exact (rfl : (_ : QR) = (AV.d (.val (.bool false)) _, none)))); rfl)); (case hT => (simp only [List.set_cons_succ, List.set_cons_zero]; rfl)); (case hF => (simp only [List.set_cons_succ, List.set_cons_zero]; rfl)); skip)
 | (apply evOps_one; (case hg => rfl); (case h => (simp [evStep, evPure, h7, h8, h9, he, Xt.enc]; with_reducible rfl)); skip)
 | (apply evOps_yes; (case hg => rfl); (case hb => (simp [gval, dstB, h7, h8, h9, he, Xt.enc]; done)); (case h => (simp [evStep, evPure, h7, h8, h9, he, Xt.enc]; with_reducible rfl)); skip)
 | (apply evOps_no; (case hg => rfl); (case hb => (simp [gval, dstB, h7, h8, h9, he, Xt.enc]; with_reducible rfl)); (case hne => (simp; done)); (case hd => (simp [dstB]; done)); skip)
 | (apply evOps_big; (case hg => rfl); (case hd => (simp [dstB]; done)); (case hb => (simp [evBig, evStep, evPure, h7, h8, h9, he, Xt.enc]; with_reducible rfl)); skip)
 | (apply evOps_bigYes; (case hg => rfl); (case hgv => (simp [gval, dstB, h7, h8, h9, he, Xt.enc]; done)); (case hd => (simp [dstB]; done)); (case hb => (simp [evBig, evStep, evPure, h7, h8, h9, he, Xt.enc]; with_reducible rfl)); skip)
 | (apply evOps_split; (case _hg => rfl); (case _ht => rfl); (case hb => (simp [dstB]; with_reducible rfl)); (case hv => ((fail_if_success (with_reducible exact (rfl : (_ : AV) = AV.d (.val (.bool true)) _))); (fail_if_success (with_reducible exact (rfl : (_ : AV) = AV.d (.val (.bool false)) _))); rfl)); skip)
 | (apply WP_cond; (case hx => (simp [St.eval, dstB, h7, h8, h9, he, Xt.enc]; with_reducible rfl)); (case hv => rfl); skip))
      refine WP_loop (fun k2 σ2 => ∃ (b : Nat) (W2 : Nat → Nat) (g2 g5 : Nat) (f6 : Bool), e.start ≤ b ∧ b ≤ e.start + e.len ∧ k2 = (e.start + e.len).toNat - b ∧ small W2 ∧ (∀ c, tk W2 c = true ↔ (taken l i c ∨ (e.start ≤ c ∧ c < b))) ∧ (∀ c : Nat, e.start ≤ c → c < b → ¬ taken l i c) ∧
        σ2.env 7 = .d (.sl n (l.map Xt.enc)) false ∧ σ2.env 8 = .d (vi l.length) true ∧ σ2.env 9 = .d (vi i) true ∧ σ2.env 3 = .rp 3 g2 0 0 ∧ σ2.own 3 = some (.var 83 g2 false (words W2)) ∧
        σ2.env 6 = .d (vi b) f6 ∧ σ2.env 5 = .rp 5 g5 0 0 ∧ σ2.own 5 = some (.var 24 g5 false [.d (vi e.at') false, .d (vi e.start) false, .d (vi e.len) false, .d (vb e.un) false])) ((e.start + e.len).toNat - e.start.toNat) (gc [3, 5, 6, 7, 8, 9] [3, 5] _) (gc_forget _ _ _) ?_ ?_
      · refine ⟨e.start.toNat, W, g, _, false, by omega, by omega, rfl, hsm, fun c => ?_, fun c h1 h2 => by omega, ?_, ?_, ?_, ?_, ?_, ?_, (by simp [gc, restrictEnv, dstB]; rfl), ?_⟩
        · rw [htk]; constructor
          · exact .inl
          · rintro (h | h)
            · exact h
            · omega
        all_goals simp [gc, restrictEnv, restrictOwn, dstB, h7, h8, h9, h3, o3]
        all_goals first | omega | rfl | skip
        all_goals trace_state
      · rintro k2 σ2 ⟨b, W2, g2, g5, f6, hb1, hb2, rfl, hsm2, htk2, hno, j7, j8, j9, j3, p3, j6, j5, p5⟩
        by_cases hlt : (b : Int) < e.start + e.len
        · obtain ⟨q, hq⟩ : ∃ q, b / 64 = q := ⟨_, rfl⟩
          obtain ⟨s, hs⟩ : ∃ s, b % 64 = s := ⟨_, rfl⟩
          have hq16 : q < 16 := by omega
          have hs64 : s < 64 := by omega
          have hq16' : (q : Int) < 16 := by omega
          have L1 : binShift .shr .i64 (b : Int) 6 = some (.int .i64 (q : Int)) := hq ▸ shr_i64_6 b
          have L2 : binInt .and .i64 (b : Int) 63 = some (.int .i64 (s : Int)) := hs ▸ and63_i64 b (by omega)
          obtain ⟨w, hw⟩ : ∃ w, W2 q = w := ⟨_, rfl⟩
          have hwl : w < 18446744073709551616 := hw ▸ hsm2 q
          obtain ⟨x, hx⟩ : ∃ x, w / 2 ^ s = x := ⟨_, rfl⟩
          have hxl : x < 18446744073709551616 := by rw [← hx]; exact Nat.lt_of_le_of_lt (Nat.div_le_self _ _) hwl
          have L3 : binShift .shr .u64 (w : Int) (s : Int) = some (.int .u64 (x : Int)) := hx ▸ shr_u64 w s hs64
          obtain ⟨y, hy⟩ : ∃ y, x % 2 = y := ⟨_, rfl⟩
          have L4 : binInt .and .u64 (x : Int) 1 = some (.int .u64 (y : Int)) := hy ▸ and1_u64 x hxl
          obtain ⟨z, hz⟩ : ∃ z, 2 ^ s = z := ⟨_, rfl⟩
          have L5 : binShift .shl .u64 1 (s : Int) = some (.int .u64 (z : Int)) := hz ▸ shl1_u64 s hs64
          have hzl : z < 18446744073709551616 := by rw [← hz]; exact Nat.pow_lt_pow_right (by omega) hs64
          obtain ⟨r, hr⟩ : ∃ r, w ||| z = r := ⟨_, rfl⟩
          have L6 : binInt .or .u64 (w : Int) (z : Int) = some (.int .u64 (r : Int)) := hr ▸ or_u64 w z hwl hzl
          have hq15 : q ≤ 15 := by omega
          have hU : (words W2).take q ++ ((.d (.val (.int .u64 (r : Int))) true : AV) :: (words W2).drop (q + 1)) = words (upd W2 b) := by
            have := words_upd W2 (b := b) (by omega)
            rw [hq, hs, hw, hz, hr] at this; exact this
          have hw1 : IntKind.i64.wrap ((b : Int) + 1) = ((b + 1 : Nat) : Int) := by rw [w64_in (by omega) (by omega)]; rfl
          have hwin : ((words W2).drop q).take 1 = [.d (.val (.int .u64 (w : Int))) true] := by rw [words_win W2 hq16, word, hw]
          have htkb : tk W2 b = decide (y = 1) := by rw [tk_eq, hq, hs, hw, hx, hy]
          repeat' (first
 | (intro h; first | (exfalso; exact Bool.noConfusion h) | (simp only [decide_eq_true_eq, decide_eq_false_iff_not] at h) | skip)
 | (apply evOps_fin; (case hf => (simp only [finGo, app1]; rfl)); skip)
 | refine WP_seq ?_
 | refine WP_scope ?_
 | refine WP_block ?_
 | refine WP_ret ?_
 | refine WP_skip ?_
 | refine WP_exit ?_
 | (apply WP_region; (case hl => rfl); (case hc => (simp only [put_env', put_own', put_ctr', put_none', setOwn_env', setOwn_own', setOwn_ctr', setCtr_env', setCtr_own', setCtr_ctr', entry, entryEnv, entryOwn, inAV, scAV, inOB]; rfl)); (case hc' => (conv => lhs; simp only [List.size_toArray, List.length_cons, List.length_nil, Nat.zero_add, Nat.reduceAdd, Nat.add_assoc])); skip)
 | (apply WP_draw; (case hl => rfl); (case hds => (simp only [List.map_cons, List.map_nil]; rfl)); (case hc => (simp only [put_env', put_own', put_ctr', put_none', setOwn_env', setOwn_own', setOwn_ctr', setCtr_env', setCtr_own', setCtr_ctr', entry, entryEnv, entryOwn, inAV, scAV, inOB]; rfl)); (case hc' => (conv => lhs; simp only [List.size_toArray, List.length_cons, List.length_nil, Nat.zero_add, Nat.reduceAdd, Nat.add_assoc])); (case hD => rfl); (case hb => kernel_rfl); (case h1 => (simp only [List.take_succ_cons, List.take_zero]; rfl)); (case h2 => (simp only [List.drop_succ_cons, List.drop_zero]; rfl)); (case h3 => (simp only [List.take_succ_cons, List.take_zero]; rfl)); intro had; skip)
 | refine evOps_nil ?_
 | refine evQ_nil ?_
 | (apply evQ_one; (case had => assumption); (case hg => rfl); (case hd => (simp [dstB]; done)); (case h => (simp [evQuiet, evCallQ, known, njk, AV.isJunk, Op.operands, Call.operands, evEff, evStep, evPure, j7, j8, j9, j3, p3, j6, j5, p5, sp50, h50, decX, xt_eta, hlast, hlt, ↓L1, ↓L2, ↓L3, ↓L4, ↓L5, ↓L6, hwin, hq16, hq16', hq15, words_len, hU]; with_reducible rfl)); (case hs => (simp; done)); (case hR => (simp only [List.nil_append, List.cons_append]; rfl)); skip)
 | (apply evQ_yes; (case had => assumption); (case hg => rfl); (case hb => (simp [gval, evEff, dstB, j7, j8, j9, j3, p3, j6, j5, p5, sp50, h50, decX, xt_eta, hlast, hlt, ↓L1, ↓L2, ↓L3, ↓L4, ↓L5, ↓L6, hwin, hq16, hq16', hq15, words_len, hU]; done)); (case hd => (simp [dstB]; done)); (case h => (simp [evQuiet, evCallQ, known, njk, AV.isJunk, Op.operands, Call.operands, evEff, evStep, evPure, j7, j8, j9, j3, p3, j6, j5, p5, sp50, h50, decX, xt_eta, hlast, hlt, ↓L1, ↓L2, ↓L3, ↓L4, ↓L5, ↓L6, hwin, hq16, hq16', hq15, words_len, hU]; with_reducible rfl)); (case hs => (simp; done)); (case hR => (simp only [List.nil_append, List.cons_append]; rfl)); skip)
 | (apply evQ_no; (case had => assumption); (case hg => rfl); (case hb => (simp [gval, evEff, dstB, j7, j8, j9, j3, p3, j6, j5, p5, sp50, h50, decX, xt_eta, hlast, hlt, ↓L1, ↓L2, ↓L3, ↓L4, ↓L5, ↓L6, hwin, hq16, hq16', hq15, words_len, hU]; with_reducible rfl)); (case hne => (simp; done)); (case hd => (simp [dstB]; done)); (case hR => (simp only [List.nil_append, List.cons_append]; rfl)); skip)
 | (apply evQ_split; (case hg => rfl); (case hb => (simp only [List.getElem?_cons_succ, List.getElem?_cons_zero]; rfl)); (case hv => ((fail_if_success (with_reducible exact (rfl : (_ : QR) = (AV.d (.val (.bool true)) _, none)))); (fail_if_success (with_reducible exact (rfl : (_ : QR) = (AV.d (.val (.bool false)) _, none)))); rfl)); (case hT => (simp only [List.set_cons_succ, List.set_cons_zero]; rfl)); (case hF => (simp only [List.set_cons_succ, List.set_cons_zero]; rfl)); skip)
 | (apply evOps_one; (case hg => rfl); (case h => (simp [evStep, evPure, j7, j8, j9, j3, p3, j6, j5, p5, sp50, h50, decX, xt_eta, hlast, hlt, ↓L1, ↓L2, ↓L3, ↓L4, ↓L5, ↓L6, hwin, hq16, hq16', hq15, words_len, hU]; with_reducible rfl)); skip)
 | (apply evOps_yes; (case hg => rfl); (case hb => (simp [gval, dstB, j7, j8, j9, j3, p3, j6, j5, p5, sp50, h50, decX, xt_eta, hlast, hlt, ↓L1, ↓L2, ↓L3, ↓L4, ↓L5, ↓L6, hwin, hq16, hq16', hq15, words_len, hU]; done)); (case h => (simp [evStep, evPure, j7, j8, j9, j3, p3, j6, j5, p5, sp50, h50, decX, xt_eta, hlast, hlt, ↓L1, ↓L2, ↓L3, ↓L4, ↓L5, ↓L6, hwin, hq16, hq16', hq15, words_len, hU]; with_reducible rfl)); skip)
 | (apply evOps_no; (case hg => rfl); (case hb => (simp [gval, dstB, j7, j8, j9, j3, p3, j6, j5, p5, sp50, h50, decX, xt_eta, hlast, hlt, ↓L1, ↓L2, ↓L3, ↓L4, ↓L5, ↓L6, hwin, hq16, hq16', hq15, words_len, hU]; with_reducible rfl)); (case hne => (simp; done)); (case hd => (simp [dstB]; done)); skip)
 | (apply evOps_big; (case hg => rfl); (case hd => (simp [dstB]; done)); (case hb => (simp [evBig, evStep, evPure, j7, j8, j9, j3, p3, j6, j5, p5, sp50, h50, decX, xt_eta, hlast, hlt, ↓L1, ↓L2, ↓L3, ↓L4, ↓L5, ↓L6, hwin, hq16, hq16', hq15, words_len, hU]; with_reducible rfl)); skip)
 | (apply evOps_bigYes; (case hg => rfl); (case hgv => (simp [gval, dstB, j7, j8, j9, j3, p3, j6, j5, p5, sp50, h50, decX, xt_eta, hlast, hlt, ↓L1, ↓L2, ↓L3, ↓L4, ↓L5, ↓L6, hwin, hq16, hq16', hq15, words_len, hU]; done)); (case hd => (simp [dstB]; done)); (case hb => (simp [evBig, evStep, evPure, j7, j8, j9, j3, p3, j6, j5, p5, sp50, h50, decX, xt_eta, hlast, hlt, ↓L1, ↓L2, ↓L3, ↓L4, ↓L5, ↓L6, hwin, hq16, hq16', hq15, words_len, hU]; with_reducible rfl)); skip)
 | (apply evOps_split; (case _hg => rfl); (case _ht => rfl); (case hb => (simp [dstB]; with_reducible rfl)); (case hv => ((fail_if_success (with_reducible exact (rfl : (_ : AV) = AV.d (.val (.bool true)) _))); (fail_if_success (with_reducible exact (rfl : (_ : AV) = AV.d (.val (.bool false)) _))); rfl)); skip)
 | (apply WP_cond; (case hx => (simp [St.eval, dstB, j7, j8, j9, j3, p3, j6, j5, p5, sp50, h50, decX, xt_eta, hlast, hlt, ↓L1, ↓L2, ↓L3, ↓L4, ↓L5, ↓L6, hwin, hq16, hq16', hq15, words_len, hU]; with_reducible rfl)); (case hv => rfl); skip))
          · -- a block that is taken
            have hy1 : y = 1 := by omega
            have ht : tk W2 b = true := by rw [htkb, hy1]; rfl
            have hno : apartX l = false := by
              rcases (htk2 b).1 ht with ht | ht
              · exact apartX_no he ⟨by omega, by omega⟩ ht
              · omega
            simp [Fin1, resVals, ownOf, FinList1, FinOne1, FinWr1, nodupB, Try.results25, hno, evStep, evPure]
          · -- one block more
            have ht : ¬ tk W2 b = true := by rw [htkb]; simp; omega
            have hnt : ¬ taken l i b := fun hx => ht ((htk2 b).2 (.inl hx))
            refine ⟨(e.start + e.len).toNat - (b + 1), gc [3, 5, 6, 7, 8, 9] [3, 5] _, by omega, gc_forget _ _ _, b + 1, upd W2 b, g2, g5, true, by omega, by omega, rfl, small_upd hsm2 b, fun c => ?_, fun c h1 h2 => ?_, ?_, ?_, ?_, ?_, ?_, ?_, ?_, ?_⟩
            · rw [tk_upd, Bool.or_eq_true, htk2 c, decide_eq_true_eq]
              constructor
              · rintro ((h | h) | h)
                · exact .inl h
                · exact .inr ⟨h.1, by omega⟩
                · exact .inr ⟨by omega, by omega⟩
              · rintro (h | h)
                · exact .inl (.inl h)
                · by_cases hc : c = b
                  · exact .inr hc
                  · exact .inl (.inr ⟨h.1, by omega⟩)
            · by_cases hc : c = b
              · subst hc; exact hnt
              · exact hno c h1 (by omega)
            all_goals simp [gc, restrictEnv, restrictOwn, dstB, j7, j8, j9, j3, p3, j6, j5, p5, hw1]
        · repeat' (first
 | (intro h; first | (exfalso; exact Bool.noConfusion h) | (simp only [decide_eq_true_eq, decide_eq_false_iff_not] at h) | skip)
 | (apply evOps_fin; (case hf => (simp only [finGo, app1]; rfl)); skip)
 | refine WP_seq ?_
 | refine WP_scope ?_
 | refine WP_block ?_
 | refine WP_ret ?_
 | refine WP_skip ?_
 | refine WP_exit ?_
 | (apply WP_region; (case hl => rfl); (case hc => (simp only [put_env', put_own', put_ctr', put_none', setOwn_env', setOwn_own', setOwn_ctr', setCtr_env', setCtr_own', setCtr_ctr', entry, entryEnv, entryOwn, inAV, scAV, inOB]; rfl)); (case hc' => (conv => lhs; simp only [List.size_toArray, List.length_cons, List.length_nil, Nat.zero_add, Nat.reduceAdd, Nat.add_assoc])); skip)
 | (apply WP_draw; (case hl => rfl); (case hds => (simp only [List.map_cons, List.map_nil]; rfl)); (case hc => (simp only [put_env', put_own', put_ctr', put_none', setOwn_env', setOwn_own', setOwn_ctr', setCtr_env', setCtr_own', setCtr_ctr', entry, entryEnv, entryOwn, inAV, scAV, inOB]; rfl)); (case hc' => (conv => lhs; simp only [List.size_toArray, List.length_cons, List.length_nil, Nat.zero_add, Nat.reduceAdd, Nat.add_assoc])); (case hD => rfl); (case hb => kernel_rfl); (case h1 => (simp only [List.take_succ_cons, List.take_zero]; rfl)); (case h2 => (simp only [List.drop_succ_cons, List.drop_zero]; rfl)); (case h3 => (simp only [List.take_succ_cons, List.take_zero]; rfl)); intro had; skip)
 | refine evOps_nil ?_
 | refine evQ_nil ?_
 | (apply evQ_one; (case had => assumption); (case hg => rfl); (case hd => (simp [dstB]; done)); (case h => (simp [evQuiet, evCallQ, known, njk, AV.isJunk, Op.operands, Call.operands, evEff, evStep, evPure, j7, j8, j9, j3, p3, j6, j5, p5, sp50, h50, decX, xt_eta, hlast, hlt]; with_reducible rfl)); (case hs => (simp; done)); (case hR => (simp only [List.nil_append, List.cons_append]; rfl)); skip)
 | (apply evQ_yes; (case had => assumption); (case hg => rfl); (case hb => (simp [gval, evEff, dstB, j7, j8, j9, j3, p3, j6, j5, p5, sp50, h50, decX, xt_eta, hlast, hlt]; done)); (case hd => (simp [dstB]; done)); (case h => (simp [evQuiet, evCallQ, known, njk, AV.isJunk, Op.operands, Call.operands, evEff, evStep, evPure, j7, j8, j9, j3, p3, j6, j5, p5, sp50, h50, decX, xt_eta, hlast, hlt]; with_reducible rfl)); (case hs => (simp; done)); (case hR => (simp only [List.nil_append, List.cons_append]; rfl)); skip)
 | (apply evQ_no; (case had => assumption); (case hg => rfl); (case hb => (simp [gval, evEff, dstB, j7, j8, j9, j3, p3, j6, j5, p5, sp50, h50, decX, xt_eta, hlast, hlt]; with_reducible rfl)); (case hne => (simp; done)); (case hd => (simp [dstB]; done)); (case hR => (simp only [List.nil_append, List.cons_append]; rfl)); skip)
 | (apply evQ_split; (case hg => rfl); (case hb => (simp only [List.getElem?_cons_succ, List.getElem?_cons_zero]; rfl)); (case hv => ((fail_if_success (with_reducible exact (rfl : (_ : QR) = (AV.d (.val (.bool true)) _, none)))); (fail_if_success (with_reducible exact (rfl : (_ : QR) = (AV.d (.val (.bool false)) _, none)))); rfl)); (case hT => (simp only [List.set_cons_succ, List.set_cons_zero]; rfl)); (case hF => (simp only [List.set_cons_succ, List.set_cons_zero]; rfl)); skip)
 | (apply evOps_one; (case hg => rfl); (case h => (simp [evStep, evPure, j7, j8, j9, j3, p3, j6, j5, p5, sp50, h50, decX, xt_eta, hlast, hlt]; with_reducible rfl)); skip)
 | (apply evOps_yes; (case hg => rfl); (case hb => (simp [gval, dstB, j7, j8, j9, j3, p3, j6, j5, p5, sp50, h50, decX, xt_eta, hlast, hlt]; done)); (case h => (simp [evStep, evPure, j7, j8, j9, j3, p3, j6, j5, p5, sp50, h50, decX, xt_eta, hlast, hlt]; with_reducible rfl)); skip)
 | (apply evOps_no; (case hg => rfl); (case hb => (simp [gval, dstB, j7, j8, j9, j3, p3, j6, j5, p5, sp50, h50, decX, xt_eta, hlast, hlt]; with_reducible rfl)); (case hne => (simp; done)); (case hd => (simp [dstB]; done)); skip)
 | (apply evOps_big; (case hg => rfl); (case hd => (simp [dstB]; done)); (case hb => (simp [evBig, evStep, evPure, j7, j8, j9, j3, p3, j6, j5, p5, sp50, h50, decX, xt_eta, hlast, hlt]; with_reducible rfl)); skip)
 | (apply evOps_bigYes; (case hg => rfl); (case hgv => (simp [gval, dstB, j7, j8, j9, j3, p3, j6, j5, p5, sp50, h50, decX, xt_eta, hlast, hlt]; done)); (case hd => (simp [dstB]; done)); (case hb => (simp [evBig, evStep, evPure, j7, j8, j9, j3, p3, j6, j5, p5, sp50, h50, decX, xt_eta, hlast, hlt]; with_reducible rfl)); skip)
 | (apply evOps_split; (case _hg => rfl); (case _ht => rfl); (case hb => (simp [dstB]; with_reducible rfl)); (case hv => ((fail_if_success (with_reducible exact (rfl : (_ : AV) = AV.d (.val (.bool true)) _))); (fail_if_success (with_reducible exact (rfl : (_ : AV) = AV.d (.val (.bool false)) _))); rfl)); skip)
 | (apply WP_cond; (case hx => (simp [St.eval, dstB, j7, j8, j9, j3, p3, j6, j5, p5, sp50, h50, decX, xt_eta, hlast, hlt]; with_reducible rfl)); (case hv => rfl); skip))
          have hw1 : IntKind.i64.wrap ((i : Int) + 1) = ((i + 1 : Nat) : Int) := by rw [w64_in (by omega) (by omega)]; rfl
          refine ⟨l.length - (i + 1), gc [3, 7, 8, 9] [3] _, by omega, gc_forget _ _ _, i + 1, W2, g2, by omega, rfl, hsm2, fun c => ?_, apartN_succ hm he hap (fun c hc => hno c hc.1 ?_), ?_, ?_, ?_, ?_, ?_⟩
          · rw [htk2 c]
            constructor
            · rintro (⟨j, f, h1, h2, h3⟩ | h)
              · exact ⟨j, f, by omega, h2, h3⟩
              · exact ⟨i, e, by omega, he, h.1, by omega⟩
            · rintro ⟨j, f, h1, h2, h3⟩
              by_cases hj : j < i
              · exact .inl ⟨j, f, hj, h2, h3⟩
              · obtain rfl : j = i := by omega
                rw [he] at h2
                obtain rfl := Option.some.inj h2
                exact .inr ⟨h3.1, by have := h3.2; omega⟩
          · have := hc.2; omega
          all_goals simp [gc, restrictEnv, restrictOwn, dstB, j7, j8, j9, j3, p3, j6, j5, p5, hw1]
    · have hie : i = l.length := by omega
      subst hie
      have := apartN_all hap
      simp [Fin1, resVals, ownOf, FinList1, FinOne1, FinWr1, nodupB, Try.results25, this, evStep, evPure]
end Go.Dv

/-
  DERIVED, MY OWN. THE WALK OF extent.Check.
-/


set_option autoImplicit false
set_option maxRecDepth 20000
set_option linter.unusedSimpArgs false
set_option linter.unusedVariables false
namespace Go.Dv
open Go Go.RowKit Go.Proofs

def D7 : Dep := fun
  | 6 => (27, [[], [0], [0, 1], [0, 1, 2], [0, 1, 2, 3], [0, 1, 2, 3, 4], [0, 1, 2, 3, 4, 5], [0, 1, 2, 3, 4, 5, 6], [0, 1, 2, 3, 4, 5, 6, 7], [0, 1, 2, 3, 4, 5, 6], [0, 1, 2, 3, 4, 5, 6], [0, 1, 2, 3, 4, 5, 6, 10], [0, 1, 2, 3, 4, 5, 6, 9, 10, 11], [0, 1, 2, 3, 4, 5, 6, 9, 10, 11, 12], [0, 1, 2, 3, 4, 5, 6, 9, 10, 11, 12, 13], [0, 1, 2, 3, 4, 5, 6, 7, 8, 9, 10, 11, 12, 13, 14], [0, 1, 2, 3, 4, 5, 6, 7, 8, 9, 10, 11, 12, 13, 14, 15], [0, 1, 2, 3, 4, 5, 6, 7, 8, 9, 10, 11, 12, 13, 14, 15, 16], [0, 1, 2, 3, 4, 5, 6, 7, 8, 9, 10, 11, 12, 13, 14, 15, 16], [0, 1, 2, 3, 4, 5, 6, 7, 8, 9, 10, 11, 12, 13, 14, 15, 16, 18], [0, 1, 2, 3, 4, 5, 6, 7, 8, 9, 10, 11, 12, 13, 14, 15, 16, 17, 18, 19], [0, 1, 2, 3, 4, 5, 6, 7, 8, 9, 10, 11, 12, 13, 14, 15, 16, 17, 18, 19, 20], [0, 1, 2, 3, 4, 5, 6, 7, 8, 9, 10, 11, 12, 13, 14, 15, 16], [0, 1, 2, 3, 4, 5, 6, 7, 8, 9, 10, 11, 12, 13, 14, 15, 16, 17, 18, 19, 20, 21, 22], [0, 1, 2, 3, 4, 5, 6, 7, 8, 9, 10, 11, 12, 13, 14, 15, 16, 17, 18, 19, 20, 21, 22, 23], [0, 1, 2, 3, 4, 5, 6, 7, 8, 9, 10, 11, 12, 13, 14, 15, 16, 17, 18, 19, 20, 21, 22, 23, 24], [0, 1, 2, 3, 4, 5, 6, 7, 8, 9, 10, 11, 12, 13, 14, 15, 16, 17, 18, 19, 20, 21, 22, 23, 24, 25]])
  | _ => (0, [])

set_option maxHeartbeats 4000000 in
theorem ok7 {T : Tbl} (hT : TblOk' Try.prog T) (h22 : T 22 = some sp22) (h23 : T 23 = some sp23) (h24 : T 24 = some sp24) (h25 : T 25 = some sp25) : FOk Try.prog 7 sp7 := by
  intro ins out h
  obtain ⟨n, l, rfl, rfl⟩ := sp7_inv h
  clear h
  refine at_of_body (D := D7) hT mix10 Try.func7 rfl (by simp [Try.ntmps7]) (fun ty => ?_)
  repeat' (first
 | (intro h; first | (exfalso; exact Bool.noConfusion h) | (simp only [decide_eq_true_eq, decide_eq_false_iff_not] at h) | skip)
 | (apply evOps_fin; (case hf => (simp only [finGo, app1]; rfl)); skip)
 | refine WP_seq ?_
 | refine WP_scope ?_
 | refine WP_block ?_
 | refine WP_ret ?_
 | refine WP_skip ?_
 | refine WP_exit ?_
 | (apply WP_region; (case hl => rfl); (case hc => (simp only [put_env', put_own', put_ctr', put_none', setOwn_env', setOwn_own', setOwn_ctr', setCtr_env', setCtr_own', setCtr_ctr', entry, entryEnv, entryOwn, inAV, scAV, inOB]; rfl)); (case hc' => (conv => lhs; simp only [List.size_toArray, List.length_cons, List.length_nil, Nat.zero_add, Nat.reduceAdd, Nat.add_assoc])); skip)
 | (apply WP_draw; (case hl => rfl); (case hds => (simp only [List.map_cons, List.map_nil]; rfl)); (case hc => (simp only [put_env', put_own', put_ctr', put_none', setOwn_env', setOwn_own', setOwn_ctr', setCtr_env', setCtr_own', setCtr_ctr', entry, entryEnv, entryOwn, inAV, scAV, inOB]; rfl)); (case hc' => (conv => lhs; simp only [List.size_toArray, List.length_cons, List.length_nil, Nat.zero_add, Nat.reduceAdd, Nat.add_assoc])); (case hD => rfl); (case hb => kernel_rfl); (case h1 => (simp only [List.take_succ_cons, List.take_zero]; rfl)); (case h2 => (simp only [List.drop_succ_cons, List.drop_zero]; rfl)); (case h3 => (simp only [List.take_succ_cons, List.take_zero]; rfl)); intro had; skip)
 | refine evOps_nil ?_
 | refine evQ_nil ?_
 | (apply evQ_one; (case had => assumption); (case hg => rfl); (case hd => (simp [dstB]; done)); (case h => (simp [evQuiet, evCallQ, known, njk, AV.isJunk, Op.operands, Call.operands, evEff, evStep, evPure]; with_reducible rfl)); (case hs => (simp; done)); (case hR => (simp only [List.nil_append, List.cons_append]; rfl)); skip)
 | (apply evQ_yes; (case had => assumption); (case hg => rfl); (case hb => (simp [gval, evEff, dstB]; done)); (case hd => (simp [dstB]; done)); (case h => (simp [evQuiet, evCallQ, known, njk, AV.isJunk, Op.operands, Call.operands, evEff, evStep, evPure]; with_reducible rfl)); (case hs => (simp; done)); (case hR => (simp only [List.nil_append, List.cons_append]; rfl)); skip)
 | (apply evQ_no; (case had => assumption); (case hg => rfl); (case hb => (simp [gval, evEff, dstB]; with_reducible rfl)); (case hne => (simp; done)); (case hd => (simp [dstB]; done)); (case hR => (simp only [List.nil_append, List.cons_append]; rfl)); skip)
 | (apply evQ_split; (case hg => rfl); (case hb => (simp only [List.getElem?_cons_succ, List.getElem?_cons_zero]; rfl)); (case hv => ((fail_if_success (with_reducible exact (rfl : (_ : QR) = (AV.d (.val (.bool true)) _, none)))); (fail_if_success (with_reducible exact (rfl : (_ : QR) = (AV.d (.val (.bool false)) _, none)))); rfl)); (case hT => (simp only [List.set_cons_succ, List.set_cons_zero]; rfl)); (case hF => (simp only [List.set_cons_succ, List.set_cons_zero]; rfl)); skip)
 | (apply evOps_one; (case hg => rfl); (case h => (simp [evStep, evPure]; with_reducible rfl)); skip)
 | (apply evOps_yes; (case hg => rfl); (case hb => (simp [gval, dstB]; done)); (case h => (simp [evStep, evPure]; with_reducible rfl)); skip)
 | (apply evOps_no; (case hg => rfl); (case hb => (simp [gval, dstB]; with_reducible rfl)); (case hne => (simp; done)); (case hd => (simp [dstB]; done)); skip)
 | (apply evOps_big; (case hg => rfl); (case hd => (simp [dstB]; done)); (case hb => (simp [evBig, evStep, evPure]; with_reducible rfl)); skip)
 | (apply evOps_bigYes; (case hg => rfl); (case hgv => (simp [gval, dstB]; done)); (case hd => (simp [dstB]; done)); (case hb => (simp [evBig, evStep, evPure]; with_reducible rfl)); skip)
 | (apply evOps_split; (case _hg => rfl); (case _ht => rfl); (case hb => (simp [dstB]; with_reducible rfl)); (case hv => ((fail_if_success (with_reducible exact (rfl : (_ : AV) = AV.d (.val (.bool true)) _))); (fail_if_success (with_reducible exact (rfl : (_ : AV) = AV.d (.val (.bool false)) _))); rfl)); skip)
 | (apply WP_cond; (case hx => (simp [St.eval, dstB]; with_reducible rfl)); (case hv => rfl); skip))
  · -- too long
    have hn : ¬ l.length ≤ 60 := by omega
    simp [Fin1, resVals, ownOf, FinList1, FinOne1, FinWr1, nodupB, Try.results7, checkX, hn, evStep, evPure]
  · -- the loop
    have hlen : l.length ≤ 60 := by omega
    refine WP_loop (fun k σ1 => ∃ i : Nat, i ≤ l.length ∧ k = l.length - i ∧ (∀ j, j < i → stepX l j = true) ∧ σ1.env 0 = .d (.sl n (l.map Xt.enc)) false ∧ σ1.env 8 = .d (.sl n (l.map Xt.enc)) false ∧ σ1.env 9 = .d (vi l.length) true ∧ σ1.env 10 = .d (vi i) true) l.length (gc [0, 8, 9, 10] [] _) (gc_forget _ _ _) ?_ ?_
    · refine ⟨0, Nat.zero_le _, rfl, by simp, ?_, ?_, ?_, ?_⟩ <;> simp [gc, restrictEnv, dstB]
    · rintro k σ1 ⟨i, hil, rfl, hstep, h0, h8, h9, h10⟩
      repeat' (first
 | (intro h; first | (exfalso; exact Bool.noConfusion h) | (simp only [decide_eq_true_eq, decide_eq_false_iff_not] at h) | skip)
 | (apply evOps_fin; (case hf => (simp only [finGo, app1]; rfl)); skip)
 | refine WP_seq ?_
 | refine WP_scope ?_
 | refine WP_block ?_
 | refine WP_ret ?_
 | refine WP_skip ?_
 | refine WP_exit ?_
 | (apply WP_region; (case hl => rfl); (case hc => (simp only [put_env', put_own', put_ctr', put_none', setOwn_env', setOwn_own', setOwn_ctr', setCtr_env', setCtr_own', setCtr_ctr', entry, entryEnv, entryOwn, inAV, scAV, inOB]; rfl)); (case hc' => (conv => lhs; simp only [List.size_toArray, List.length_cons, List.length_nil, Nat.zero_add, Nat.reduceAdd, Nat.add_assoc])); skip)
 | (apply WP_draw; (case hl => rfl); (case hds => (simp only [List.map_cons, List.map_nil]; rfl)); (case hc => (simp only [put_env', put_own', put_ctr', put_none', setOwn_env', setOwn_own', setOwn_ctr', setCtr_env', setCtr_own', setCtr_ctr', entry, entryEnv, entryOwn, inAV, scAV, inOB]; rfl)); (case hc' => (conv => lhs; simp only [List.size_toArray, List.length_cons, List.length_nil, Nat.zero_add, Nat.reduceAdd, Nat.add_assoc])); (case hD => rfl); (case hb => kernel_rfl); (case h1 => (simp only [List.take_succ_cons, List.take_zero]; rfl)); (case h2 => (simp only [List.drop_succ_cons, List.drop_zero]; rfl)); (case h3 => (simp only [List.take_succ_cons, List.take_zero]; rfl)); intro had; skip)
 | refine evOps_nil ?_
 | refine evQ_nil ?_
 | (apply evQ_one; (case had => assumption); (case hg => rfl); (case hd => (simp [dstB]; done)); (case h => (simp [evQuiet, evCallQ, known, njk, AV.isJunk, Op.operands, Call.operands, evEff, evStep, evPure, h0, h8, h9, h10]; with_reducible rfl)); (case hs => (simp; done)); (case hR => (simp only [List.nil_append, List.cons_append]; rfl)); skip)
 | (apply evQ_yes; (case had => assumption); (case hg => rfl); (case hb => (simp [gval, evEff, dstB, h0, h8, h9, h10]; done)); (case hd => (simp [dstB]; done)); (case h => (simp [evQuiet, evCallQ, known, njk, AV.isJunk, Op.operands, Call.operands, evEff, evStep, evPure, h0, h8, h9, h10]; with_reducible rfl)); (case hs => (simp; done)); (case hR => (simp only [List.nil_append, List.cons_append]; rfl)); skip)
 | (apply evQ_no; (case had => assumption); (case hg => rfl); (case hb => (simp [gval, evEff, dstB, h0, h8, h9, h10]; with_reducible rfl)); (case hne => (simp; done)); (case hd => (simp [dstB]; done)); (case hR => (simp only [List.nil_append, List.cons_append]; rfl)); skip)
 | (apply evQ_split; (case hg => rfl); (case hb => (simp only [List.getElem?_cons_succ, List.getElem?_cons_zero]; rfl)); (case hv => ((fail_if_success (with_reducible exact (rfl : (_ : QR) = (AV.d (.val (.bool true)) _, none)))); (fail_if_success (with_reducible exact (rfl : (_ : QR) = (AV.d (.val (.bool false)) _, none)))); rfl)); (case hT => (simp only [List.set_cons_succ, List.set_cons_zero]; rfl)); (case hF => (simp only [List.set_cons_succ, List.set_cons_zero]; rfl)); skip)
 | (apply evOps_one; (case hg => rfl); (case h => (simp [evStep, evPure, h0, h8, h9, h10]; with_reducible rfl)); skip)
 | (apply evOps_yes; (case hg => rfl); (case hb => (simp [gval, dstB, h0, h8, h9, h10]; done)); (case h => (simp [evStep, evPure, h0, h8, h9, h10]; with_reducible rfl)); skip)
 | (apply evOps_no; (case hg => rfl); (case hb => (simp [gval, dstB, h0, h8, h9, h10]; with_reducible rfl)); (case hne => (simp; done)); (case hd => (simp [dstB]; done)); skip)
 | (apply evOps_big; (case hg => rfl); (case hd => (simp [dstB]; done)); (case hb => (simp [evBig, evStep, evPure, h0, h8, h9, h10]; with_reducible rfl)); skip)
 | (apply evOps_bigYes; (case hg => rfl); (case hgv => (simp [gval, dstB, h0, h8, h9, h10]; done)); (case hd => (simp [dstB]; done)); (case hb => (simp [evBig, evStep, evPure, h0, h8, h9, h10]; with_reducible rfl)); skip)
 | (apply evOps_split; (case _hg => rfl); (case _ht => rfl); (case hb => (simp [dstB]; with_reducible rfl)); (case hv => ((fail_if_success (with_reducible exact (rfl : (_ : AV) = AV.d (.val (.bool true)) _))); (fail_if_success (with_reducible exact (rfl : (_ : AV) = AV.d (.val (.bool false)) _))); rfl)); skip)
 | (apply WP_cond; (case hx => (simp [St.eval, dstB, h0, h8, h9, h10]; with_reducible rfl)); (case hv => rfl); skip))
      · obtain ⟨e, he⟩ : ∃ e, l[i]? = some e := ⟨_, List.getElem?_eq_getElem h⟩
        rcases i with _ | j
        · have hret : stepX l 0 = false → checkX l = false := fun hs => by
            have := chainX_not (l := l) (i := 0) (by omega) hs
            simp [checkX, this]
          repeat' (first
 | (intro h; first | (exfalso; exact Bool.noConfusion h) | (simp only [decide_eq_true_eq, decide_eq_false_iff_not] at h) | skip)
 | (apply evOps_fin; (case hf => (simp only [finGo, app1]; rfl)); skip)
 | refine WP_seq ?_
 | refine WP_scope ?_
 | refine WP_block ?_
 | refine WP_ret ?_
 | refine WP_skip ?_
 | refine WP_exit ?_
 | (apply WP_region; (case hl => rfl); (case hc => (simp only [put_env', put_own', put_ctr', put_none', setOwn_env', setOwn_own', setOwn_ctr', setCtr_env', setCtr_own', setCtr_ctr', entry, entryEnv, entryOwn, inAV, scAV, inOB]; rfl)); (case hc' => (conv => lhs; simp only [List.size_toArray, List.length_cons, List.length_nil, Nat.zero_add, Nat.reduceAdd, Nat.add_assoc])); skip)
 | (apply WP_draw; (case hl => rfl); (case hds => (simp only [List.map_cons, List.map_nil]; rfl)); (case hc => (simp only [put_env', put_own', put_ctr', put_none', setOwn_env', setOwn_own', setOwn_ctr', setCtr_env', setCtr_own', setCtr_ctr', entry, entryEnv, entryOwn, inAV, scAV, inOB]; rfl)); (case hc' => (conv => lhs; simp only [List.size_toArray, List.length_cons, List.length_nil, Nat.zero_add, Nat.reduceAdd, Nat.add_assoc])); (case hD => rfl); (case hb => kernel_rfl); (case h1 => (simp only [List.take_succ_cons, List.take_zero]; rfl)); (case h2 => (simp only [List.drop_succ_cons, List.drop_zero]; rfl)); (case h3 => (simp only [List.take_succ_cons, List.take_zero]; rfl)); intro had; skip)
 | refine evOps_nil ?_
 | refine evQ_nil ?_
 | (apply evQ_one; (case had => assumption); (case hg => rfl); (case hd => (simp [dstB]; done)); (case h => (simp [evQuiet, evCallQ, known, njk, AV.isJunk, Op.operands, Call.operands, evEff, evStep, evPure, h0, h8, h9, h10, he, decX, xt_eta, Xt.enc, sp22, sp23, sp24, h22, h23, h24]; with_reducible rfl)); (case hs => (simp; done)); (case hR => (simp only [List.nil_append, List.cons_append]; rfl)); skip)
 | (apply evQ_yes; (case had => assumption); (case hg => rfl); (case hb => (simp [gval, evEff, dstB, h0, h8, h9, h10, he, decX, xt_eta, Xt.enc, sp22, sp23, sp24, h22, h23, h24]; done)); (case hd => (simp [dstB]; done)); (case h => (simp [evQuiet, evCallQ, known, njk, AV.isJunk, Op.operands, Call.operands, evEff, evStep, evPure, h0, h8, h9, h10, he, decX, xt_eta, Xt.enc, sp22, sp23, sp24, h22, h23, h24]; with_reducible rfl)); (case hs => (simp; done)); (case hR => (simp only [List.nil_append, List.cons_append]; rfl)); skip)
 | (apply evQ_no; (case had => assumption); (case hg => rfl); (case hb => (simp [gval, evEff, dstB, h0, h8, h9, h10, he, decX, xt_eta, Xt.enc, sp22, sp23, sp24, h22, h23, h24]; with_reducible rfl)); (case hne => (simp; done)); (case hd => (simp [dstB]; done)); (case hR => (simp only [List.nil_append, List.cons_append]; rfl)); skip)
 | (apply evQ_split; (case hg => rfl); (case hb => (simp only [List.getElem?_cons_succ, List.getElem?_cons_zero]; rfl)); (case hv => ((fail_if_success (with_reducible exact (rfl : (_ : QR) = (AV.d (.val (.bool true)) _, none)))); (fail_if_success (with_reducible exact (rfl : (_ : QR) = (AV.d (.val (.bool false)) _, none)))); rfl)); (case hT => (simp only [List.set_cons_succ, List.set_cons_zero]; rfl)); (case hF => (simp only [List.set_cons_succ, List.set_cons_zero]; rfl)); skip)
 | (apply evOps_one; (case hg => rfl); (case h => (simp [evStep, evPure, h0, h8, h9, h10, he, decX, xt_eta, Xt.enc, sp22, sp23, sp24, h22, h23, h24]; with_reducible rfl)); skip)
 | (apply evOps_yes; (case hg => rfl); (case hb => (simp [gval, dstB, h0, h8, h9, h10, he, decX, xt_eta, Xt.enc, sp22, sp23, sp24, h22, h23, h24]; done)); (case h => (simp [evStep, evPure, h0, h8, h9, h10, he, decX, xt_eta, Xt.enc, sp22, sp23, sp24, h22, h23, h24]; with_reducible rfl)); skip)
 | (apply evOps_no; (case hg => rfl); (case hb => (simp [gval, dstB, h0, h8, h9, h10, he, decX, xt_eta, Xt.enc, sp22, sp23, sp24, h22, h23, h24]; with_reducible rfl)); (case hne => (simp; done)); (case hd => (simp [dstB]; done)); skip)
 | (apply evOps_big; (case hg => rfl); (case hd => (simp [dstB]; done)); (case hb => (simp [evBig, evStep, evPure, h0, h8, h9, h10, he, decX, xt_eta, Xt.enc, sp22, sp23, sp24, h22, h23, h24]; with_reducible rfl)); skip)
 | (apply evOps_bigYes; (case hg => rfl); (case hgv => (simp [gval, dstB, h0, h8, h9, h10, he, decX, xt_eta, Xt.enc, sp22, sp23, sp24, h22, h23, h24]; done)); (case hd => (simp [dstB]; done)); (case hb => (simp [evBig, evStep, evPure, h0, h8, h9, h10, he, decX, xt_eta, Xt.enc, sp22, sp23, sp24, h22, h23, h24]; with_reducible rfl)); skip)
 | (apply evOps_split; (case _hg => rfl); (case _ht => rfl); (case hb => (simp [dstB]; with_reducible rfl)); (case hv => ((fail_if_success (with_reducible exact (rfl : (_ : AV) = AV.d (.val (.bool true)) _))); (fail_if_success (with_reducible exact (rfl : (_ : AV) = AV.d (.val (.bool false)) _))); rfl)); skip)
 | (apply WP_cond; (case hx => (simp [St.eval, dstB, h0, h8, h9, h10, he, decX, xt_eta, Xt.enc, sp22, sp23, sp24, h22, h23, h24]; with_reducible rfl)); (case hv => rfl); skip))
          all_goals first
            | (have hbad := hret (by simp_all [stepX]); simp [Fin1, resVals, ownOf, FinList1, FinOne1, FinWr1, nodupB, Try.results7, hbad, evStep, evPure]; done)
            | (refine ⟨l.length - (0 + 1), gc [0, 8, 9, 10] [] _, by omega, gc_forget _ _ _, 0 + 1, by omega, rfl, fun k hk => ?_, ?_, ?_, ?_, ?_⟩
               · have hk0 : k = 0 := by omega
                 subst hk0
                 simp_all [stepX]
               all_goals simp [gc, restrictEnv, dstB, h0, h8, h9, h10, w64_in])
        · obtain ⟨p, hp⟩ : ∃ p, l[j]? = some p := ⟨_, List.getElem?_eq_getElem (by omega)⟩
          have hw : IntKind.i64.wrap (j : Int) = j := w64_in (by omega) (by omega)
          have hret : stepX l (j + 1) = false → checkX l = false := fun hs => by
            have := chainX_not (l := l) (i := j + 1) (by omega) hs
            simp [checkX, this]
          have ht : ((j : Int) + 1).toNat = j + 1 := by omega
          have ht0 : (0 : Int) ≤ (j : Int) + 1 := by omega
          have ht1 : (0 : Int) < (j : Int) + 1 := by omega
          have hw2 : IntKind.i64.wrap ((j : Int) + 1 + 1) = (j : Int) + 1 + 1 := w64_in (by omega) (by omega)
          repeat' (first
 | (intro h; first | (exfalso; exact Bool.noConfusion h) | (simp only [decide_eq_true_eq, decide_eq_false_iff_not] at h) | skip)
 | (apply evOps_fin; (case hf => (simp only [finGo, app1]; rfl)); skip)
 | refine WP_seq ?_
 | refine WP_scope ?_
 | refine WP_block ?_
 | refine WP_ret ?_
 | refine WP_skip ?_
 | refine WP_exit ?_
 | (apply WP_region; (case hl => rfl); (case hc => (simp only [put_env', put_own', put_ctr', put_none', setOwn_env', setOwn_own', setOwn_ctr', setCtr_env', setCtr_own', setCtr_ctr', entry, entryEnv, entryOwn, inAV, scAV, inOB]; rfl)); (case hc' => (conv => lhs; simp only [List.size_toArray, List.length_cons, List.length_nil, Nat.zero_add, Nat.reduceAdd, Nat.add_assoc])); skip)
 | (apply WP_draw; (case hl => rfl); (case hds => (simp only [List.map_cons, List.map_nil]; rfl)); (case hc => (simp only [put_env', put_own', put_ctr', put_none', setOwn_env', setOwn_own', setOwn_ctr', setCtr_env', setCtr_own', setCtr_ctr', entry, entryEnv, entryOwn, inAV, scAV, inOB]; rfl)); (case hc' => (conv => lhs; simp only [List.size_toArray, List.length_cons, List.length_nil, Nat.zero_add, Nat.reduceAdd, Nat.add_assoc])); (case hD => rfl); (case hb => kernel_rfl); (case h1 => (simp only [List.take_succ_cons, List.take_zero]; rfl)); (case h2 => (simp only [List.drop_succ_cons, List.drop_zero]; rfl)); (case h3 => (simp only [List.take_succ_cons, List.take_zero]; rfl)); intro had; skip)
 | refine evOps_nil ?_
 | refine evQ_nil ?_
 | (apply evQ_one; (case had => assumption); (case hg => rfl); (case hd => (simp [dstB]; done)); (case h => (simp [evQuiet, evCallQ, known, njk, AV.isJunk, Op.operands, Call.operands, evEff, evStep, evPure, h0, h8, h9, h10, he, hp, hw, ht, ht0, ht1, decX, xt_eta, Xt.enc, sp22, sp23, sp24, h22, h23, h24]; with_reducible rfl)); (case hs => (simp; done)); (case hR => (simp only [List.nil_append, List.cons_append]; rfl)); skip)
 | (apply evQ_yes; (case had => assumption); (case hg => rfl); (case hb => (simp [gval, evEff, dstB, h0, h8, h9, h10, he, hp, hw, ht, ht0, ht1, decX, xt_eta, Xt.enc, sp22, sp23, sp24, h22, h23, h24]; done)); (case hd => (simp [dstB]; done)); (case h => (simp [evQuiet, evCallQ, known, njk, AV.isJunk, Op.operands, Call.operands, evEff, evStep, evPure, h0, h8, h9, h10, he, hp, hw, ht, ht0, ht1, decX, xt_eta, Xt.enc, sp22, sp23, sp24, h22, h23, h24]; with_reducible rfl)); (case hs => (simp; done)); (case hR => (simp only [List.nil_append, List.cons_append]; rfl)); skip)
 | (apply evQ_no; (case had => assumption); (case hg => rfl); (case hb => (simp [gval, evEff, dstB, h0, h8, h9, h10, he, hp, hw, ht, ht0, ht1, decX, xt_eta, Xt.enc, sp22, sp23, sp24, h22, h23, h24]; with_reducible rfl)); (case hne => (simp; done)); (case hd => (simp [dstB]; done)); (case hR => (simp only [List.nil_append, List.cons_append]; rfl)); skip)
 | (apply evQ_split; (case hg => rfl); (case hb => (simp only [List.getElem?_cons_succ, List.getElem?_cons_zero]; rfl)); (case hv => ((fail_if_success (with_reducible exact (rfl : (_ : QR) = (AV.d (.val (.bool true)) _, none)))); (fail_if_success (with_reducible exact (rfl : (_ : QR) = (AV.d (.val (.bool false)) _, none)))); rfl)); (case hT => (simp only [List.set_cons_succ, List.set_cons_zero]; rfl)); (case hF => (simp only [List.set_cons_succ, List.set_cons_zero]; rfl)); skip)
 | (apply evOps_one; (case hg => rfl); (case h => (simp [evStep, evPure, h0, h8, h9, h10, he, hp, hw, ht, ht0, ht1, decX, xt_eta, Xt.enc, sp22, sp23, sp24, h22, h23, h24]; with_reducible rfl)); skip)
 | (apply evOps_yes; (case hg => rfl); (case hb => (simp [gval, dstB, h0, h8, h9, h10, he, hp, hw, ht, ht0, ht1, decX, xt_eta, Xt.enc, sp22, sp23, sp24, h22, h23, h24]; done)); (case h => (simp [evStep, evPure, h0, h8, h9, h10, he, hp, hw, ht, ht0, ht1, decX, xt_eta, Xt.enc, sp22, sp23, sp24, h22, h23, h24]; with_reducible rfl)); skip)
 | (apply evOps_no; (case hg => rfl); (case hb => (simp [gval, dstB, h0, h8, h9, h10, he, hp, hw, ht, ht0, ht1, decX, xt_eta, Xt.enc, sp22, sp23, sp24, h22, h23, h24]; with_reducible rfl)); (case hne => (simp; done)); (case hd => (simp [dstB]; done)); skip)
 | (apply evOps_big; (case hg => rfl); (case hd => (simp [dstB]; done)); (case hb => (simp [evBig, evStep, evPure, h0, h8, h9, h10, he, hp, hw, ht, ht0, ht1, decX, xt_eta, Xt.enc, sp22, sp23, sp24, h22, h23, h24]; with_reducible rfl)); skip)
 | (apply evOps_bigYes; (case hg => rfl); (case hgv => (simp [gval, dstB, h0, h8, h9, h10, he, hp, hw, ht, ht0, ht1, decX, xt_eta, Xt.enc, sp22, sp23, sp24, h22, h23, h24]; done)); (case hd => (simp [dstB]; done)); (case hb => (simp [evBig, evStep, evPure, h0, h8, h9, h10, he, hp, hw, ht, ht0, ht1, decX, xt_eta, Xt.enc, sp22, sp23, sp24, h22, h23, h24]; with_reducible rfl)); skip)
 | (apply evOps_split; (case _hg => rfl); (case _ht => rfl); (case hb => (simp [dstB]; with_reducible rfl)); (case hv => ((fail_if_success (with_reducible exact (rfl : (_ : AV) = AV.d (.val (.bool true)) _))); (fail_if_success (with_reducible exact (rfl : (_ : AV) = AV.d (.val (.bool false)) _))); rfl)); skip)
 | (apply WP_cond; (case hx => (simp [St.eval, dstB, h0, h8, h9, h10, he, hp, hw, ht, ht0, ht1, decX, xt_eta, Xt.enc, sp22, sp23, sp24, h22, h23, h24]; with_reducible rfl)); (case hv => rfl); skip))
          all_goals first
            | (have hbad := hret (by simp_all [stepX]); simp [Fin1, resVals, ownOf, FinList1, FinOne1, FinWr1, nodupB, Try.results7, hbad, evStep, evPure]; done)
            | (refine ⟨l.length - (j + 1 + 1), gc [0, 8, 9, 10] [] _, by omega, gc_forget _ _ _, j + 1 + 1, by omega, rfl, fun k hk => ?_, ?_, ?_, ?_, ?_⟩
               · by_cases hkj : k < j + 1
                 · exact hstep k hkj
                 · have hk0 : k = j + 1 := by omega
                   subst hk0
                   simp_all [stepX]
               all_goals simp [gc, restrictEnv, dstB, h0, h8, h9, h10, hw2])
            | trace_state
      · have hie : i = l.length := by omega
        subst hie
        have hch : chainX l = true := chainX_of hstep
        have hm : fewL l = true := by
          have h1 : mayL l = true := all_may hch
          simp only [fewL, h1, Bool.true_and, decide_eq_true_eq]; omega
        repeat' (first
 | (intro h; first | (exfalso; exact Bool.noConfusion h) | (simp only [decide_eq_true_eq, decide_eq_false_iff_not] at h) | skip)
 | (apply evOps_fin; (case hf => (simp only [finGo, app1]; rfl)); skip)
 | refine WP_seq ?_
 | refine WP_scope ?_
 | refine WP_block ?_
 | refine WP_ret ?_
 | refine WP_skip ?_
 | refine WP_exit ?_
 | (apply WP_region; (case hl => rfl); (case hc => (simp only [put_env', put_own', put_ctr', put_none', setOwn_env', setOwn_own', setOwn_ctr', setCtr_env', setCtr_own', setCtr_ctr', entry, entryEnv, entryOwn, inAV, scAV, inOB]; rfl)); (case hc' => (conv => lhs; simp only [List.size_toArray, List.length_cons, List.length_nil, Nat.zero_add, Nat.reduceAdd, Nat.add_assoc])); skip)
 | (apply WP_draw; (case hl => rfl); (case hds => (simp only [List.map_cons, List.map_nil]; rfl)); (case hc => (simp only [put_env', put_own', put_ctr', put_none', setOwn_env', setOwn_own', setOwn_ctr', setCtr_env', setCtr_own', setCtr_ctr', entry, entryEnv, entryOwn, inAV, scAV, inOB]; rfl)); (case hc' => (conv => lhs; simp only [List.size_toArray, List.length_cons, List.length_nil, Nat.zero_add, Nat.reduceAdd, Nat.add_assoc])); (case hD => rfl); (case hb => kernel_rfl); (case h1 => (simp only [List.take_succ_cons, List.take_zero]; rfl)); (case h2 => (simp only [List.drop_succ_cons, List.drop_zero]; rfl)); (case h3 => (simp only [List.take_succ_cons, List.take_zero]; rfl)); intro had; skip)
 | refine evOps_nil ?_
 | refine evQ_nil ?_
 | (apply evQ_one; (case had => assumption); (case hg => rfl); (case hd => (simp [dstB]; done)); (case h => (simp [evQuiet, evCallQ, known, njk, AV.isJunk, Op.operands, Call.operands, evEff, evStep, evPure, h0, h8, h9, h10, h25, sp25, decL_enc, hm]; with_reducible rfl)); (case hs => (simp; done)); (case hR => (simp only [List.nil_append, List.cons_append]; rfl)); skip)
 | (apply evQ_yes; (case had => assumption); (case hg => rfl); (case hb => (simp [gval, evEff, dstB, h0, h8, h9, h10, h25, sp25, decL_enc, hm]; done)); (case hd => (simp [dstB]; done)); (case h => (simp [evQuiet, evCallQ, known, njk, AV.isJunk, Op.operands, Call.operands, evEff, evStep, evPure, h0, h8, h9, h10, h25, sp25, decL_enc, hm]; with_reducible rfl)); (case hs => (simp; done)); (case hR => (simp only [List.nil_append, List.cons_append]; rfl)); skip)
 | (apply evQ_no; (case had => assumption); (case hg => rfl); (case hb => (simp [gval, evEff, dstB, h0, h8, h9, h10, h25, sp25, decL_enc, hm]; with_reducible rfl)); (case hne => (simp; done)); (case hd => (simp [dstB]; done)); (case hR => (simp only [List.nil_append, List.cons_append]; rfl)); skip)
 | (apply evQ_split; (case hg => rfl); (case hb => (simp only [List.getElem?_cons_succ, List.getElem?_cons_zero]; rfl)); (case hv => ((fail_if_success (with_reducible exact (rfl : (_ : QR) = (AV.d (.val (.bool true)) _, none)))); (fail_if_success (with_reducible exact (rfl : (_ : QR) = (AV.d (.val (.bool false)) _, none)))); rfl)); (case hT => (simp only [List.set_cons_succ, List.set_cons_zero]; rfl)); (case hF => (simp only [List.set_cons_succ, List.set_cons_zero]; rfl)); skip)
 | (apply evOps_one; (case hg => rfl); (case h => (simp [evStep, evPure, h0, h8, h9, h10, h25, sp25, decL_enc, hm]; with_reducible rfl)); skip)
 | (apply evOps_yes; (case hg => rfl); (case hb => (simp [gval, dstB, h0, h8, h9, h10, h25, sp25, decL_enc, hm]; done)); (case h => (simp [evStep, evPure, h0, h8, h9, h10, h25, sp25, decL_enc, hm]; with_reducible rfl)); skip)
 | (apply evOps_no; (case hg => rfl); (case hb => (simp [gval, dstB, h0, h8, h9, h10, h25, sp25, decL_enc, hm]; with_reducible rfl)); (case hne => (simp; done)); (case hd => (simp [dstB]; done)); skip)
 | (apply evOps_big; (case hg => rfl); (case hd => (simp [dstB]; done)); (case hb => (simp [evBig, evStep, evPure, h0, h8, h9, h10, h25, sp25, decL_enc, hm]; with_reducible rfl)); skip)
 | (apply evOps_bigYes; (case hg => rfl); (case hgv => (simp [gval, dstB, h0, h8, h9, h10, h25, sp25, decL_enc, hm]; done)); (case hd => (simp [dstB]; done)); (case hb => (simp [evBig, evStep, evPure, h0, h8, h9, h10, h25, sp25, decL_enc, hm]; with_reducible rfl)); skip)
 | (apply evOps_split; (case _hg => rfl); (case _ht => rfl); (case hb => (simp [dstB]; with_reducible rfl)); (case hv => ((fail_if_success (with_reducible exact (rfl : (_ : AV) = AV.d (.val (.bool true)) _))); (fail_if_success (with_reducible exact (rfl : (_ : AV) = AV.d (.val (.bool false)) _))); rfl)); skip)
 | (apply WP_cond; (case hx => (simp [St.eval, dstB, h0, h8, h9, h10, h25, sp25, decL_enc, hm]; with_reducible rfl)); (case hv => rfl); skip))
        all_goals first
          | (simp_all [Fin1, resVals, ownOf, FinList1, FinOne1, FinWr1, nodupB, Try.results7, checkX, evStep, evPure]; done)
          | trace_state
end Go.Dv

/-
  DERIVED, MY OWN. THE WALKS OF behind AND OF THE SEARCH.
-/


set_option autoImplicit false
set_option maxRecDepth 20000
set_option linter.unusedSimpArgs false
set_option linter.unusedVariables false
namespace Go.Dv
open Go Go.RowKit Go.Proofs

theorem ok52 {T : Tbl} (hT : TblOk' Try.prog T) (h23 : T 23 = some sp23) : FOk Try.prog 52 sp52 := by
  intro ins out h
  obtain ⟨⟨a, s, l, u⟩, p, rfl, rfl⟩ := sp52_inv h
  refine at_of_body (D := D0) hT mix10 Try.func52 rfl (by simp [Try.ntmps52]) (fun ty => ?_)
  simp only [Xt.enc]
  repeat' (first
 | (intro h; first | (exfalso; exact Bool.noConfusion h) | (simp only [decide_eq_true_eq, decide_eq_false_iff_not] at h) | skip)
 | (apply evOps_fin; (case hf => (simp only [finGo, app1]; rfl)); skip)
 | refine WP_seq ?_
 | refine WP_scope ?_
 | refine WP_block ?_
 | refine WP_ret ?_
 | refine WP_skip ?_
 | refine WP_exit ?_
 | (apply WP_region; (case hl => rfl); (case hc => (simp only [put_env', put_own', put_ctr', put_none', setOwn_env', setOwn_own', setOwn_ctr', setCtr_env', setCtr_own', setCtr_ctr', entry, entryEnv, entryOwn, inAV, scAV, inOB]; rfl)); (case hc' => (conv => lhs; simp only [List.size_toArray, List.length_cons, List.length_nil, Nat.zero_add, Nat.reduceAdd, Nat.add_assoc])); skip)
 | refine evOps_nil ?_
 | (apply evOps_one; (case hg => rfl); (case h => (simp [evStep, evPure, h23, sp23, decX]; with_reducible rfl)); skip)
 | (apply evOps_yes; (case hg => rfl); (case hb => (simp [gval, dstB, h23, sp23, decX]; done)); (case h => (simp [evStep, evPure, h23, sp23, decX]; with_reducible rfl)); skip)
 | (apply evOps_no; (case hg => rfl); (case hb => (simp [gval, dstB, h23, sp23, decX]; with_reducible rfl)); (case hne => (simp; done)); (case hd => (simp [dstB]; done)); skip)
 | (apply evOps_big; (case hg => rfl); (case hd => (simp [dstB]; done)); (case hb => (simp [evBig, evStep, evPure, h23, sp23, decX]; with_reducible rfl)); skip)
 | (apply evOps_bigYes; (case hg => rfl); (case hgv => (simp [gval, dstB, h23, sp23, decX]; done)); (case hd => (simp [dstB]; done)); (case hb => (simp [evBig, evStep, evPure, h23, sp23, decX]; with_reducible rfl)); skip)
 | (apply evOps_split; (case _hg => rfl); (case _ht => rfl); (case hb => (simp [dstB]; with_reducible rfl)); (case hv => ((fail_if_success (with_reducible exact (rfl : (_ : AV) = AV.d (.val (.bool true)) _))); (fail_if_success (with_reducible exact (rfl : (_ : AV) = AV.d (.val (.bool false)) _))); rfl)); skip)
 | (apply WP_cond; (case hx => (simp [St.eval, dstB, h23, sp23, decX]; with_reducible rfl)); (case hv => rfl); skip))
  all_goals simp [Fin1, resVals, ownOf, FinList1, FinOne1, FinWr1, nodupB, Try.results52, evStep, evPure]
  all_goals first | omega | simp [*]

set_option maxHeartbeats 1000000 in
theorem ok51 {T : Tbl} (hT : TblOk' Try.prog T) (h52 : T 52 = some sp52) : FOk Try.prog 51 sp51 := by
  intro ins out h
  obtain ⟨n, l, p, rfl, hch, hlen, rfl⟩ := sp51_inv h
  clear h
  refine at_of_body (D := D0) hT mix10 Try.func51 rfl (by simp [Try.ntmps51]) (fun ty => ?_)
  repeat' (first
 | (intro h; first | (exfalso; exact Bool.noConfusion h) | (simp only [decide_eq_true_eq, decide_eq_false_iff_not] at h) | skip)
 | (apply evOps_fin; (case hf => (simp only [finGo, app1]; rfl)); skip)
 | refine WP_seq ?_
 | refine WP_scope ?_
 | refine WP_block ?_
 | refine WP_ret ?_
 | refine WP_skip ?_
 | refine WP_exit ?_
 | (apply WP_region; (case hl => rfl); (case hc => (simp only [put_env', put_own', put_ctr', put_none', setOwn_env', setOwn_own', setOwn_ctr', setCtr_env', setCtr_own', setCtr_ctr', entry, entryEnv, entryOwn, inAV, scAV, inOB]; rfl)); (case hc' => (conv => lhs; simp only [List.size_toArray, List.length_cons, List.length_nil, Nat.zero_add, Nat.reduceAdd, Nat.add_assoc])); skip)
 | refine evOps_nil ?_
 | (apply evOps_one; (case hg => rfl); (case h => (simp [evStep, evPure]; with_reducible rfl)); skip)
 | (apply evOps_yes; (case hg => rfl); (case hb => (simp [gval, dstB]; done)); (case h => (simp [evStep, evPure]; with_reducible rfl)); skip)
 | (apply evOps_no; (case hg => rfl); (case hb => (simp [gval, dstB]; with_reducible rfl)); (case hne => (simp; done)); (case hd => (simp [dstB]; done)); skip)
 | (apply evOps_big; (case hg => rfl); (case hd => (simp [dstB]; done)); (case hb => (simp [evBig, evStep, evPure]; with_reducible rfl)); skip)
 | (apply evOps_bigYes; (case hg => rfl); (case hgv => (simp [gval, dstB]; done)); (case hd => (simp [dstB]; done)); (case hb => (simp [evBig, evStep, evPure]; with_reducible rfl)); skip)
 | (apply evOps_split; (case _hg => rfl); (case _ht => rfl); (case hb => (simp [dstB]; with_reducible rfl)); (case hv => ((fail_if_success (with_reducible exact (rfl : (_ : AV) = AV.d (.val (.bool true)) _))); (fail_if_success (with_reducible exact (rfl : (_ : AV) = AV.d (.val (.bool false)) _))); rfl)); skip)
 | (apply WP_cond; (case hx => (simp [St.eval, dstB]; with_reducible rfl)); (case hv => rfl); skip))
  refine WP_loop (fun k σ1 => ∃ (i j : Nat) (fi fj : Bool), i ≤ j ∧ j ≤ l.length ∧ k = j - i ∧ (∀ (c : Nat) e, c < i → l[c]? = some e → endX e ≤ p) ∧ (∀ (c : Nat) e, j ≤ c → l[c]? = some e → p < endX e) ∧
    σ1.env 0 = .d (.sl n (l.map Xt.enc)) false ∧ σ1.env 1 = .d (vi p) false ∧ σ1.env 2 = .clo 52 [] ∧ σ1.env 8 = .d (vi l.length) true ∧ σ1.env 9 = .d (vi i) fi ∧ σ1.env 10 = .d (vi j) fj) l.length (gc [0, 1, 2, 8, 9, 10] [] _) (gc_forget _ _ _) ?_ ?_
  · refine ⟨0, l.length, true, true, Nat.zero_le _, Nat.le_refl _, rfl, fun c e h => by omega, fun c e h he => ?_, ?_, ?_, ?_, ?_, ?_, ?_⟩
    · have := (List.getElem?_eq_some_iff.1 he).1; omega
    all_goals simp [gc, restrictEnv, restrictOwn, dstB, lift]
  · rintro k σ1 ⟨i, j, fi, fj, hij, hj, rfl, hlo, hhi, h0, h1, h2, h8, h9, h10⟩
    by_cases hlt : i < j
    · have c1 : IntKind.i64.wrap ((i : Int) + j) = ((i + j : Nat) : Int) := by rw [w64_in (by omega) (by omega)]; rfl
      obtain ⟨q, hq⟩ : ∃ q, i + j = q := ⟨_, rfl⟩
      rw [hq] at c1
      have c2 : IntKind.u64.wrap (q : Int) = q := u64_wrap_nat (by omega)
      obtain ⟨m, hm⟩ : ∃ m, q / 2 = m := ⟨_, rfl⟩
      have c3 : binShift .shr .u64 (q : Int) 1 = some (.int .u64 (m : Int)) := hm ▸ shr_u64 q 1 (by omega)
      have c4 : IntKind.i64.wrap (m : Int) = m := w64_in (by omega) (by omega)
      obtain ⟨e, he⟩ : ∃ e, l[m]? = some e := ⟨_, List.getElem?_eq_getElem (by omega)⟩
      have hlt' : (i : Int) < (j : Int) := by omega
      repeat' (first
 | (intro h; first | (exfalso; exact Bool.noConfusion h) | (simp only [decide_eq_true_eq, decide_eq_false_iff_not] at h) | skip)
 | (apply evOps_fin; (case hf => (simp only [finGo, app1]; rfl)); skip)
 | refine WP_seq ?_
 | refine WP_scope ?_
 | refine WP_block ?_
 | refine WP_ret ?_
 | refine WP_skip ?_
 | refine WP_exit ?_
 | (apply WP_region; (case hl => rfl); (case hc => (simp only [put_env', put_own', put_ctr', put_none', setOwn_env', setOwn_own', setOwn_ctr', setCtr_env', setCtr_own', setCtr_ctr', entry, entryEnv, entryOwn, inAV, scAV, inOB]; rfl)); (case hc' => (conv => lhs; simp only [List.size_toArray, List.length_cons, List.length_nil, Nat.zero_add, Nat.reduceAdd, Nat.add_assoc])); skip)
 | refine evOps_nil ?_
 | (apply evOps_one; (case hg => rfl); (case h => (simp [evStep, evPure, h0, h1, h2, h8, h9, h10, hlt, hlt', c1, c2, ↓c3, c4, he, Xt.enc, xt_eta, decX, h52, sp52]; with_reducible rfl)); skip)
 | (apply evOps_yes; (case hg => rfl); (case hb => (simp [gval, dstB, h0, h1, h2, h8, h9, h10, hlt, hlt', c1, c2, ↓c3, c4, he, Xt.enc, xt_eta, decX, h52, sp52]; done)); (case h => (simp [evStep, evPure, h0, h1, h2, h8, h9, h10, hlt, hlt', c1, c2, ↓c3, c4, he, Xt.enc, xt_eta, decX, h52, sp52]; with_reducible rfl)); skip)
 | (apply evOps_no; (case hg => rfl); (case hb => (simp [gval, dstB, h0, h1, h2, h8, h9, h10, hlt, hlt', c1, c2, ↓c3, c4, he, Xt.enc, xt_eta, decX, h52, sp52]; with_reducible rfl)); (case hne => (simp; done)); (case hd => (simp [dstB]; done)); skip)
 | (apply evOps_big; (case hg => rfl); (case hd => (simp [dstB]; done)); (case hb => (simp [evBig, evStep, evPure, h0, h1, h2, h8, h9, h10, hlt, hlt', c1, c2, ↓c3, c4, he, Xt.enc, xt_eta, decX, h52, sp52]; with_reducible rfl)); skip)
 | (apply evOps_bigYes; (case hg => rfl); (case hgv => (simp [gval, dstB, h0, h1, h2, h8, h9, h10, hlt, hlt', c1, c2, ↓c3, c4, he, Xt.enc, xt_eta, decX, h52, sp52]; done)); (case hd => (simp [dstB]; done)); (case hb => (simp [evBig, evStep, evPure, h0, h1, h2, h8, h9, h10, hlt, hlt', c1, c2, ↓c3, c4, he, Xt.enc, xt_eta, decX, h52, sp52]; with_reducible rfl)); skip)
 | (apply evOps_split; (case _hg => rfl); (case _ht => rfl); (case hb => (simp [dstB]; with_reducible rfl)); (case hv => ((fail_if_success (with_reducible exact (rfl : (_ : AV) = AV.d (.val (.bool true)) _))); (fail_if_success (with_reducible exact (rfl : (_ : AV) = AV.d (.val (.bool false)) _))); rfl)); skip)
 | (apply WP_cond; (case hx => (simp [St.eval, dstB, h0, h1, h2, h8, h9, h10, hlt, hlt', c1, c2, ↓c3, c4, he, Xt.enc, xt_eta, decX, h52, sp52]; with_reducible rfl)); (case hv => rfl); skip))
      · -- to the right
        have hle : endX e ≤ p := by
          apply Classical.byContradiction; intro hc; rw [if_neg hc] at h; omega
        have c5 : IntKind.i64.wrap ((m : Int) + 1) = ((m + 1 : Nat) : Int) := by rw [w64_in (by omega) (by omega)]; rfl
        refine ⟨j - (m + 1), gc [0, 1, 2, 8, 9, 10] [] _, by omega, gc_forget _ _ _, m + 1, j, true, fj, by omega, by omega, rfl, fun c f hc hf => ?_, hhi, ?_, ?_, ?_, ?_, ?_, ?_⟩
        · by_cases hcm : c = m
          · subst hcm; rw [he] at hf; obtain rfl := Option.some.inj hf; exact hle
          · have h5 := chain_mono hch (m - c - 1) c f e hf (by rw [show c + (m - c - 1 + 1) = m from by omega]; exact he)
            obtain ⟨m1, m2, m3, m4, m5, m6, m7, m8, m9⟩ := mayL_get (all_may hch) he
            omega
        all_goals simp [gc, restrictEnv, dstB, h0, h1, h2, h8, h9, h10, c5]
      · -- to the left
        have hgt : p < endX e := by
          apply Classical.byContradiction; intro hc; rw [if_pos (by omega)] at h; omega
        refine ⟨m - i, gc [0, 1, 2, 8, 9, 10] [] _, by omega, gc_forget _ _ _, i, m, fi, true, by omega, by omega, rfl, hlo, fun c f hc hf => ?_, ?_, ?_, ?_, ?_, ?_, ?_⟩
        · by_cases hcm : c = m
          · subst hcm; rw [he] at hf; obtain rfl := Option.some.inj hf; exact hgt
          · have h5 := chain_mono hch (c - m - 1) m e f he (by rw [show m + (c - m - 1 + 1) = c from by omega]; exact hf)
            obtain ⟨m1, m2, m3, m4, m5, m6, m7, m8, m9⟩ := mayL_get (all_may hch) hf
            omega
        all_goals simp [gc, restrictEnv, dstB, h0, h1, h2, h8, h9, h10]
    · have hie : i = j := by omega
      subst hie
      by_cases hil : i < l.length
      · obtain ⟨e, he⟩ : ∃ e, l[i]? = some e := ⟨_, List.getElem?_eq_getElem hil⟩
        have hb : behindX l p = i := behindX_eq p (by omega) hlo (fun e' he' => hhi i e' (Nat.le_refl _) he')
        have hp : ¬ endX e ≤ p := by have := hhi i e (Nat.le_refl _) he; omega
        repeat' (first
 | (intro h; first | (exfalso; exact Bool.noConfusion h) | (simp only [decide_eq_true_eq, decide_eq_false_iff_not] at h) | skip)
 | (apply evOps_fin; (case hf => (simp only [finGo, app1]; rfl)); skip)
 | refine WP_seq ?_
 | refine WP_scope ?_
 | refine WP_block ?_
 | refine WP_ret ?_
 | refine WP_skip ?_
 | refine WP_exit ?_
 | (apply WP_region; (case hl => rfl); (case hc => (simp only [put_env', put_own', put_ctr', put_none', setOwn_env', setOwn_own', setOwn_ctr', setCtr_env', setCtr_own', setCtr_ctr', entry, entryEnv, entryOwn, inAV, scAV, inOB]; rfl)); (case hc' => (conv => lhs; simp only [List.size_toArray, List.length_cons, List.length_nil, Nat.zero_add, Nat.reduceAdd, Nat.add_assoc])); skip)
 | refine evOps_nil ?_
 | (apply evOps_one; (case hg => rfl); (case h => (simp [evStep, evPure, h0, h1, h2, h8, h9, h10, hlt, hil, he, Xt.enc, xt_eta, decX, h52, sp52, hp]; with_reducible rfl)); skip)
 | (apply evOps_yes; (case hg => rfl); (case hb => (simp [gval, dstB, h0, h1, h2, h8, h9, h10, hlt, hil, he, Xt.enc, xt_eta, decX, h52, sp52, hp]; done)); (case h => (simp [evStep, evPure, h0, h1, h2, h8, h9, h10, hlt, hil, he, Xt.enc, xt_eta, decX, h52, sp52, hp]; with_reducible rfl)); skip)
 | (apply evOps_no; (case hg => rfl); (case hb => (simp [gval, dstB, h0, h1, h2, h8, h9, h10, hlt, hil, he, Xt.enc, xt_eta, decX, h52, sp52, hp]; with_reducible rfl)); (case hne => (simp; done)); (case hd => (simp [dstB]; done)); skip)
 | (apply evOps_big; (case hg => rfl); (case hd => (simp [dstB]; done)); (case hb => (simp [evBig, evStep, evPure, h0, h1, h2, h8, h9, h10, hlt, hil, he, Xt.enc, xt_eta, decX, h52, sp52, hp]; with_reducible rfl)); skip)
 | (apply evOps_bigYes; (case hg => rfl); (case hgv => (simp [gval, dstB, h0, h1, h2, h8, h9, h10, hlt, hil, he, Xt.enc, xt_eta, decX, h52, sp52, hp]; done)); (case hd => (simp [dstB]; done)); (case hb => (simp [evBig, evStep, evPure, h0, h1, h2, h8, h9, h10, hlt, hil, he, Xt.enc, xt_eta, decX, h52, sp52, hp]; with_reducible rfl)); skip)
 | (apply evOps_split; (case _hg => rfl); (case _ht => rfl); (case hb => (simp [dstB]; with_reducible rfl)); (case hv => ((fail_if_success (with_reducible exact (rfl : (_ : AV) = AV.d (.val (.bool true)) _))); (fail_if_success (with_reducible exact (rfl : (_ : AV) = AV.d (.val (.bool false)) _))); rfl)); skip)
 | (apply WP_cond; (case hx => (simp [St.eval, dstB, h0, h1, h2, h8, h9, h10, hlt, hil, he, Xt.enc, xt_eta, decX, h52, sp52, hp]; with_reducible rfl)); (case hv => rfl); skip))
        all_goals simp [Fin1, resVals, ownOf, FinList1, FinOne1, FinWr1, nodupB, Try.results51, hb, hil, evStep, evPure, h9]
        all_goals (split <;> simp)
      · have hb : behindX l p = i := behindX_eq p (by omega) hlo (fun e' he' => hhi i e' (Nat.le_refl _) he')
        repeat' (first
 | (intro h; first | (exfalso; exact Bool.noConfusion h) | (simp only [decide_eq_true_eq, decide_eq_false_iff_not] at h) | skip)
 | (apply evOps_fin; (case hf => (simp only [finGo, app1]; rfl)); skip)
 | refine WP_seq ?_
 | refine WP_scope ?_
 | refine WP_block ?_
 | refine WP_ret ?_
 | refine WP_skip ?_
 | refine WP_exit ?_
 | (apply WP_region; (case hl => rfl); (case hc => (simp only [put_env', put_own', put_ctr', put_none', setOwn_env', setOwn_own', setOwn_ctr', setCtr_env', setCtr_own', setCtr_ctr', entry, entryEnv, entryOwn, inAV, scAV, inOB]; rfl)); (case hc' => (conv => lhs; simp only [List.size_toArray, List.length_cons, List.length_nil, Nat.zero_add, Nat.reduceAdd, Nat.add_assoc])); skip)
 | refine evOps_nil ?_
 | (apply evOps_one; (case hg => rfl); (case h => (simp [evStep, evPure, h0, h1, h2, h8, h9, h10, hlt, hil]; with_reducible rfl)); skip)
 | (apply evOps_yes; (case hg => rfl); (case hb => (simp [gval, dstB, h0, h1, h2, h8, h9, h10, hlt, hil]; done)); (case h => (simp [evStep, evPure, h0, h1, h2, h8, h9, h10, hlt, hil]; with_reducible rfl)); skip)
 | (apply evOps_no; (case hg => rfl); (case hb => (simp [gval, dstB, h0, h1, h2, h8, h9, h10, hlt, hil]; with_reducible rfl)); (case hne => (simp; done)); (case hd => (simp [dstB]; done)); skip)
 | (apply evOps_big; (case hg => rfl); (case hd => (simp [dstB]; done)); (case hb => (simp [evBig, evStep, evPure, h0, h1, h2, h8, h9, h10, hlt, hil]; with_reducible rfl)); skip)
 | (apply evOps_bigYes; (case hg => rfl); (case hgv => (simp [gval, dstB, h0, h1, h2, h8, h9, h10, hlt, hil]; done)); (case hd => (simp [dstB]; done)); (case hb => (simp [evBig, evStep, evPure, h0, h1, h2, h8, h9, h10, hlt, hil]; with_reducible rfl)); skip)
 | (apply evOps_split; (case _hg => rfl); (case _ht => rfl); (case hb => (simp [dstB]; with_reducible rfl)); (case hv => ((fail_if_success (with_reducible exact (rfl : (_ : AV) = AV.d (.val (.bool true)) _))); (fail_if_success (with_reducible exact (rfl : (_ : AV) = AV.d (.val (.bool false)) _))); rfl)); skip)
 | (apply WP_cond; (case hx => (simp [St.eval, dstB, h0, h1, h2, h8, h9, h10, hlt, hil]; with_reducible rfl)); (case hv => rfl); skip))
        all_goals simp [Fin1, resVals, ownOf, FinList1, FinOne1, FinWr1, nodupB, Try.results51, hb, hil, evStep, evPure, h9]
theorem sp51_run (n : Bool) (l : List Xt) (p : Int) (h : okX l = true) : sp51.run [.sc (.sl n (l.map Xt.enc)), .sc (.val (.int .i64 p)), .sc (.clo 52 [])] = some ⟨[.sc (vi (behindX l p)) true, .sc (vb false) true], none⟩ := by
  show (match decL (l.map Xt.enc) with | some l => if okX l then some _ else none | none => none) = _
  rw [decL_enc]
  simp only [h, if_true]
theorem sp51_modes : sp51.modes = [false, false, false] := rfl
theorem ok26 {T : Tbl} (hT : TblOk' Try.prog T) (h51 : T 51 = some sp51) : FOk Try.prog 26 sp26 := by
  intro ins out h
  obtain ⟨n, l, p, rfl, hok, rfl⟩ := sp26_inv h
  refine at_of_body (D := D0) hT mix10 Try.func26 rfl (by simp [Try.ntmps26]) (fun ty => ?_)
  repeat' (first
 | (intro h; first | (exfalso; exact Bool.noConfusion h) | (simp only [decide_eq_true_eq, decide_eq_false_iff_not] at h) | skip)
 | (apply evOps_fin; (case hf => (simp only [finGo, app1]; rfl)); skip)
 | refine WP_seq ?_
 | refine WP_scope ?_
 | refine WP_block ?_
 | refine WP_ret ?_
 | refine WP_skip ?_
 | refine WP_exit ?_
 | (apply WP_region; (case hl => rfl); (case hc => (simp only [put_env', put_own', put_ctr', put_none', setOwn_env', setOwn_own', setOwn_ctr', setCtr_env', setCtr_own', setCtr_ctr', entry, entryEnv, entryOwn, inAV, scAV, inOB]; rfl)); (case hc' => (conv => lhs; simp only [List.size_toArray, List.length_cons, List.length_nil, Nat.zero_add, Nat.reduceAdd, Nat.add_assoc])); skip)
 | refine evOps_nil ?_
 | (apply evOps_one; (case hg => rfl); (case h => (simp [evStep, evPure, h51, sp51_run, sp51_modes, hok]; with_reducible rfl)); skip)
 | (apply evOps_yes; (case hg => rfl); (case hb => (simp [gval, dstB, h51, sp51_run, sp51_modes, hok]; done)); (case h => (simp [evStep, evPure, h51, sp51_run, sp51_modes, hok]; with_reducible rfl)); skip)
 | (apply evOps_no; (case hg => rfl); (case hb => (simp [gval, dstB, h51, sp51_run, sp51_modes, hok]; with_reducible rfl)); (case hne => (simp; done)); (case hd => (simp [dstB]; done)); skip)
 | (apply evOps_big; (case hg => rfl); (case hd => (simp [dstB]; done)); (case hb => (simp [evBig, evStep, evPure, h51, sp51_run, sp51_modes, hok]; with_reducible rfl)); skip)
 | (apply evOps_bigYes; (case hg => rfl); (case hgv => (simp [gval, dstB, h51, sp51_run, sp51_modes, hok]; done)); (case hd => (simp [dstB]; done)); (case hb => (simp [evBig, evStep, evPure, h51, sp51_run, sp51_modes, hok]; with_reducible rfl)); skip)
 | (apply evOps_split; (case _hg => rfl); (case _ht => rfl); (case hb => (simp [dstB]; with_reducible rfl)); (case hv => ((fail_if_success (with_reducible exact (rfl : (_ : AV) = AV.d (.val (.bool true)) _))); (fail_if_success (with_reducible exact (rfl : (_ : AV) = AV.d (.val (.bool false)) _))); rfl)); skip)
 | (apply WP_cond; (case hx => (simp [St.eval, dstB, h51, sp51_run, sp51_modes, hok]; with_reducible rfl)); (case hv => rfl); skip))
  all_goals simp [Fin1, resVals, ownOf, FinList1, FinOne1, FinWr1, nodupB, Try.results26, evStep, evPure]
end Go.Dv

/-
  DERIVED, MY OWN. THE WALKS OF Find, Need, ranged.
-/


set_option autoImplicit false
set_option maxRecDepth 20000
set_option linter.unusedSimpArgs false
set_option linter.unusedVariables false
namespace Go.Dv
open Go Go.RowKit Go.Proofs

def D12 : Dep := fun
  | 6 => (22, [[], [], [0, 1], [0, 1, 2], [0, 1, 2, 3], [], [0, 1, 2, 3, 4, 5], [], [], [7, 8], [7, 8, 9], [7, 8, 9, 10], [0, 1, 2, 3, 4, 5, 6, 7, 8, 9, 10, 11], [], [], [13, 14], [13, 14, 15], [13, 14, 15, 16], [13, 14, 15, 16, 17], [0, 1, 2, 3, 4, 5, 6, 7, 8, 9, 10, 11, 12], [0, 1, 2, 3, 4, 5, 6, 7, 8, 9, 10, 11, 12, 13, 14, 15, 16, 17, 18, 19], [0, 1, 2, 3, 4, 5, 6, 7, 8, 9, 10, 11, 12, 13, 14, 15, 16, 17, 18, 19, 20]])
  | _ => (0, [])
theorem ok30 {T : Tbl} (hT : TblOk' Try.prog T) (h7 : T 7 = some sp7) : FOk Try.prog 30 sp30 := by
  intro ins out h
  obtain ⟨n, l, p, q, rfl, rfl⟩ := sp30_inv h
  clear h
  refine at_of_body (D := D0) hT mix10 Try.func30 rfl (by simp [Try.ntmps30]) (fun ty => ?_)
  cases hc : checkX l
  all_goals repeat' (first
 | (intro h; first | (exfalso; exact Bool.noConfusion h) | (simp only [decide_eq_true_eq, decide_eq_false_iff_not] at h) | skip)
 | (apply evOps_fin; (case hf => (simp only [finGo, app1]; rfl)); skip)
 | refine WP_seq ?_
 | refine WP_scope ?_
 | refine WP_block ?_
 | refine WP_ret ?_
 | refine WP_skip ?_
 | refine WP_exit ?_
 | (apply WP_region; (case hl => rfl); (case hc => (simp only [put_env', put_own', put_ctr', put_none', setOwn_env', setOwn_own', setOwn_ctr', setCtr_env', setCtr_own', setCtr_ctr', entry, entryEnv, entryOwn, inAV, scAV, inOB]; rfl)); (case hc' => (conv => lhs; simp only [List.size_toArray, List.length_cons, List.length_nil, Nat.zero_add, Nat.reduceAdd, Nat.add_assoc])); skip)
 | (apply WP_draw; (case hl => rfl); (case hds => (simp only [List.map_cons, List.map_nil]; rfl)); (case hc => (simp only [put_env', put_own', put_ctr', put_none', setOwn_env', setOwn_own', setOwn_ctr', setCtr_env', setCtr_own', setCtr_ctr', entry, entryEnv, entryOwn, inAV, scAV, inOB]; rfl)); (case hc' => (conv => lhs; simp only [List.size_toArray, List.length_cons, List.length_nil, Nat.zero_add, Nat.reduceAdd, Nat.add_assoc])); (case hD => rfl); (case hb => kernel_rfl); (case h1 => (simp only [List.take_succ_cons, List.take_zero]; rfl)); (case h2 => (simp only [List.drop_succ_cons, List.drop_zero]; rfl)); (case h3 => (simp only [List.take_succ_cons, List.take_zero]; rfl)); intro had; skip)
 | refine evOps_nil ?_
 | refine evQ_nil ?_
 | (apply evQ_one; (case had => assumption); (case hg => rfl); (case hd => (simp [dstB]; done)); (case h => (simp [evQuiet, evCallQ, known, njk, AV.isJunk, Op.operands, Call.operands, evEff, evStep, evPure, h7, sp7, decL_enc, hc]; with_reducible rfl)); (case hs => (simp; done)); (case hR => (simp only [List.nil_append, List.cons_append]; rfl)); skip)
 | (apply evQ_yes; (case had => assumption); (case hg => rfl); (case hb => (simp [gval, evEff, dstB, h7, sp7, decL_enc, hc]; done)); (case hd => (simp [dstB]; done)); (case h => (simp [evQuiet, evCallQ, known, njk, AV.isJunk, Op.operands, Call.operands, evEff, evStep, evPure, h7, sp7, decL_enc, hc]; with_reducible rfl)); (case hs => (simp; done)); (case hR => (simp only [List.nil_append, List.cons_append]; rfl)); skip)
 | (apply evQ_no; (case had => assumption); (case hg => rfl); (case hb => (simp [gval, evEff, dstB, h7, sp7, decL_enc, hc]; with_reducible rfl)); (case hne => (simp; done)); (case hd => (simp [dstB]; done)); (case hR => (simp only [List.nil_append, List.cons_append]; rfl)); skip)
 | (apply evQ_split; (case hg => rfl); (case hb => (simp only [List.getElem?_cons_succ, List.getElem?_cons_zero]; rfl)); (case hv => ((fail_if_success (with_reducible exact (rfl : (_ : QR) = (AV.d (.val (.bool true)) _, none)))); (fail_if_success (with_reducible exact (rfl : (_ : QR) = (AV.d (.val (.bool false)) _, none)))); rfl)); (case hT => (simp only [List.set_cons_succ, List.set_cons_zero]; rfl)); (case hF => (simp only [List.set_cons_succ, List.set_cons_zero]; rfl)); skip)
 | (apply evOps_one; (case hg => rfl); (case h => (simp [evStep, evPure, h7, sp7, decL_enc, hc]; with_reducible rfl)); skip)
 | (apply evOps_yes; (case hg => rfl); (case hb => (simp [gval, dstB, h7, sp7, decL_enc, hc]; done)); (case h => (simp [evStep, evPure, h7, sp7, decL_enc, hc]; with_reducible rfl)); skip)
 | (apply evOps_no; (case hg => rfl); (case hb => (simp [gval, dstB, h7, sp7, decL_enc, hc]; with_reducible rfl)); (case hne => (simp; done)); (case hd => (simp [dstB]; done)); skip)
 | (apply evOps_big; (case hg => rfl); (case hd => (simp [dstB]; done)); (case hb => (simp [evBig, evStep, evPure, h7, sp7, decL_enc, hc]; with_reducible rfl)); skip)
 | (apply evOps_bigYes; (case hg => rfl); (case hgv => (simp [gval, dstB, h7, sp7, decL_enc, hc]; done)); (case hd => (simp [dstB]; done)); (case hb => (simp [evBig, evStep, evPure, h7, sp7, decL_enc, hc]; with_reducible rfl)); skip)
 | (apply evOps_split; (case _hg => rfl); (case _ht => rfl); (case hb => (simp [dstB]; with_reducible rfl)); (case hv => ((fail_if_success (with_reducible exact (rfl : (_ : AV) = AV.d (.val (.bool true)) _))); (fail_if_success (with_reducible exact (rfl : (_ : AV) = AV.d (.val (.bool false)) _))); rfl)); skip)
 | (apply WP_cond; (case hx => (simp [St.eval, dstB, h7, sp7, decL_enc, hc]; with_reducible rfl)); (case hv => rfl); skip))
  all_goals simp [Fin1, resVals, ownOf, FinList1, FinOne1, FinWr1, nodupB, Try.results30, rangedX, hc, evStep, evPure]
  all_goals first | done | (simp [*]; done) | omega

theorem ok8 {T : Tbl} (hT : TblOk' Try.prog T) (h7 : T 7 = some sp7) : FOk Try.prog 8 sp8 := by
  intro ins out h
  obtain ⟨n, l, rfl, rfl⟩ := sp8_inv h
  clear h
  refine at_of_body (D := D0) hT mix10 Try.func8 rfl (by simp [Try.ntmps8]) (fun ty => ?_)
  cases hc : checkX l
  · repeat' (first
 | (intro h; first | (exfalso; exact Bool.noConfusion h) | (simp only [decide_eq_true_eq, decide_eq_false_iff_not] at h) | skip)
 | (apply evOps_fin; (case hf => (simp only [finGo, app1]; rfl)); skip)
 | refine WP_seq ?_
 | refine WP_scope ?_
 | refine WP_block ?_
 | refine WP_ret ?_
 | refine WP_skip ?_
 | refine WP_exit ?_
 | (apply WP_region; (case hl => rfl); (case hc => (simp only [put_env', put_own', put_ctr', put_none', setOwn_env', setOwn_own', setOwn_ctr', setCtr_env', setCtr_own', setCtr_ctr', entry, entryEnv, entryOwn, inAV, scAV, inOB]; rfl)); (case hc' => (conv => lhs; simp only [List.size_toArray, List.length_cons, List.length_nil, Nat.zero_add, Nat.reduceAdd, Nat.add_assoc])); skip)
 | (apply WP_draw; (case hl => rfl); (case hds => (simp only [List.map_cons, List.map_nil]; rfl)); (case hc => (simp only [put_env', put_own', put_ctr', put_none', setOwn_env', setOwn_own', setOwn_ctr', setCtr_env', setCtr_own', setCtr_ctr', entry, entryEnv, entryOwn, inAV, scAV, inOB]; rfl)); (case hc' => (conv => lhs; simp only [List.size_toArray, List.length_cons, List.length_nil, Nat.zero_add, Nat.reduceAdd, Nat.add_assoc])); (case hD => rfl); (case hb => kernel_rfl); (case h1 => (simp only [List.take_succ_cons, List.take_zero]; rfl)); (case h2 => (simp only [List.drop_succ_cons, List.drop_zero]; rfl)); (case h3 => (simp only [List.take_succ_cons, List.take_zero]; rfl)); intro had; skip)
 | refine evOps_nil ?_
 | refine evQ_nil ?_
 | (apply evQ_one; (case had => assumption); (case hg => rfl); (case hd => (simp [dstB]; done)); (case h => (simp [evQuiet, evCallQ, known, njk, AV.isJunk, Op.operands, Call.operands, evEff, evStep, evPure, h7, sp7, decL_enc, hc]; with_reducible rfl)); (case hs => (simp; done)); (case hR => (simp only [List.nil_append, List.cons_append]; rfl)); skip)
 | (apply evQ_yes; (case had => assumption); (case hg => rfl); (case hb => (simp [gval, evEff, dstB, h7, sp7, decL_enc, hc]; done)); (case hd => (simp [dstB]; done)); (case h => (simp [evQuiet, evCallQ, known, njk, AV.isJunk, Op.operands, Call.operands, evEff, evStep, evPure, h7, sp7, decL_enc, hc]; with_reducible rfl)); (case hs => (simp; done)); (case hR => (simp only [List.nil_append, List.cons_append]; rfl)); skip)
 | (apply evQ_no; (case had => assumption); (case hg => rfl); (case hb => (simp [gval, evEff, dstB, h7, sp7, decL_enc, hc]; with_reducible rfl)); (case hne => (simp; done)); (case hd => (simp [dstB]; done)); (case hR => (simp only [List.nil_append, List.cons_append]; rfl)); skip)
 | (apply evQ_split; (case hg => rfl); (case hb => (simp only [List.getElem?_cons_succ, List.getElem?_cons_zero]; rfl)); (case hv => ((fail_if_success (with_reducible exact (rfl : (_ : QR) = (AV.d (.val (.bool true)) _, none)))); (fail_if_success (with_reducible exact (rfl : (_ : QR) = (AV.d (.val (.bool false)) _, none)))); rfl)); (case hT => (simp only [List.set_cons_succ, List.set_cons_zero]; rfl)); (case hF => (simp only [List.set_cons_succ, List.set_cons_zero]; rfl)); skip)
 | (apply evOps_one; (case hg => rfl); (case h => (simp [evStep, evPure, h7, sp7, decL_enc, hc]; with_reducible rfl)); skip)
 | (apply evOps_yes; (case hg => rfl); (case hb => (simp [gval, dstB, h7, sp7, decL_enc, hc]; done)); (case h => (simp [evStep, evPure, h7, sp7, decL_enc, hc]; with_reducible rfl)); skip)
 | (apply evOps_no; (case hg => rfl); (case hb => (simp [gval, dstB, h7, sp7, decL_enc, hc]; with_reducible rfl)); (case hne => (simp; done)); (case hd => (simp [dstB]; done)); skip)
 | (apply evOps_big; (case hg => rfl); (case hd => (simp [dstB]; done)); (case hb => (simp [evBig, evStep, evPure, h7, sp7, decL_enc, hc]; with_reducible rfl)); skip)
 | (apply evOps_bigYes; (case hg => rfl); (case hgv => (simp [gval, dstB, h7, sp7, decL_enc, hc]; done)); (case hd => (simp [dstB]; done)); (case hb => (simp [evBig, evStep, evPure, h7, sp7, decL_enc, hc]; with_reducible rfl)); skip)
 | (apply evOps_split; (case _hg => rfl); (case _ht => rfl); (case hb => (simp [dstB]; with_reducible rfl)); (case hv => ((fail_if_success (with_reducible exact (rfl : (_ : AV) = AV.d (.val (.bool true)) _))); (fail_if_success (with_reducible exact (rfl : (_ : AV) = AV.d (.val (.bool false)) _))); rfl)); skip)
 | (apply WP_cond; (case hx => (simp [St.eval, dstB, h7, sp7, decL_enc, hc]; with_reducible rfl)); (case hv => rfl); skip))
    all_goals simp [Fin1, resVals, ownOf, FinList1, FinOne1, FinWr1, nodupB, Try.results8, needX, hc, evStep, evPure]
  · obtain ⟨_, hlen, _⟩ := check_ok hc
    have e1 : IntKind.i64.wrap ((l.length : Int) + 20) = (l.length : Int) + 20 := w64_in (by omega) (by omega)
    have e2 : IntKind.i64.wrap ((l.length : Int) + 20 - 1) = (l.length : Int) + 19 := by rw [w64_in (by omega) (by omega)]; omega
    have e3 : IntKind.i64.wrap (((l.length : Int) + 19).tdiv 20) = ((l.length + 19) / 20 : Nat) := by
      have : ((l.length : Int) + 19).tdiv 20 = ((l.length + 19) / 20 : Nat) := by
        rw [Int.tdiv_eq_ediv_of_nonneg (by omega)]; omega
      rw [this, w64_in (by omega) (by omega)]
    repeat' (first
 | (intro h; first | (exfalso; exact Bool.noConfusion h) | (simp only [decide_eq_true_eq, decide_eq_false_iff_not] at h) | skip)
 | (apply evOps_fin; (case hf => (simp only [finGo, app1]; rfl)); skip)
 | refine WP_seq ?_
 | refine WP_scope ?_
 | refine WP_block ?_
 | refine WP_ret ?_
 | refine WP_skip ?_
 | refine WP_exit ?_
 | (apply WP_region; (case hl => rfl); (case hc => (simp only [put_env', put_own', put_ctr', put_none', setOwn_env', setOwn_own', setOwn_ctr', setCtr_env', setCtr_own', setCtr_ctr', entry, entryEnv, entryOwn, inAV, scAV, inOB]; rfl)); (case hc' => (conv => lhs; simp only [List.size_toArray, List.length_cons, List.length_nil, Nat.zero_add, Nat.reduceAdd, Nat.add_assoc])); skip)
 | (apply WP_draw; (case hl => rfl); (case hds => (simp only [List.map_cons, List.map_nil]; rfl)); (case hc => (simp only [put_env', put_own', put_ctr', put_none', setOwn_env', setOwn_own', setOwn_ctr', setCtr_env', setCtr_own', setCtr_ctr', entry, entryEnv, entryOwn, inAV, scAV, inOB]; rfl)); (case hc' => (conv => lhs; simp only [List.size_toArray, List.length_cons, List.length_nil, Nat.zero_add, Nat.reduceAdd, Nat.add_assoc])); (case hD => rfl); (case hb => kernel_rfl); (case h1 => (simp only [List.take_succ_cons, List.take_zero]; rfl)); (case h2 => (simp only [List.drop_succ_cons, List.drop_zero]; rfl)); (case h3 => (simp only [List.take_succ_cons, List.take_zero]; rfl)); intro had; skip)
 | refine evOps_nil ?_
 | refine evQ_nil ?_
 | (apply evQ_one; (case had => assumption); (case hg => rfl); (case hd => (simp [dstB]; done)); (case h => (simp [evQuiet, evCallQ, known, njk, AV.isJunk, Op.operands, Call.operands, evEff, evStep, evPure, h7, sp7, decL_enc, hc, e1, e2, e3]; with_reducible rfl)); (case hs => (simp; done)); (case hR => (simp only [List.nil_append, List.cons_append]; rfl)); skip)
 | (apply evQ_yes; (case had => assumption); (case hg => rfl); (case hb => (simp [gval, evEff, dstB, h7, sp7, decL_enc, hc, e1, e2, e3]; done)); (case hd => (simp [dstB]; done)); (case h => (simp [evQuiet, evCallQ, known, njk, AV.isJunk, Op.operands, Call.operands, evEff, evStep, evPure, h7, sp7, decL_enc, hc, e1, e2, e3]; with_reducible rfl)); (case hs => (simp; done)); (case hR => (simp only [List.nil_append, List.cons_append]; rfl)); skip)
 | (apply evQ_no; (case had => assumption); (case hg => rfl); (case hb => (simp [gval, evEff, dstB, h7, sp7, decL_enc, hc, e1, e2, e3]; with_reducible rfl)); (case hne => (simp; done)); (case hd => (simp [dstB]; done)); (case hR => (simp only [List.nil_append, List.cons_append]; rfl)); skip)
 | (apply evQ_split; (case hg => rfl); (case hb => (simp only [List.getElem?_cons_succ, List.getElem?_cons_zero]; rfl)); (case hv => ((fail_if_success (with_reducible exact (rfl : (_ : QR) = (AV.d (.val (.bool true)) _, none)))); (fail_if_success (with_reducible exact (rfl : (_ : QR) = (AV.d (.val (.bool false)) _, none)))); rfl)); (case hT => (simp only [List.set_cons_succ, List.set_cons_zero]; rfl)); (case hF => (simp only [List.set_cons_succ, List.set_cons_zero]; rfl)); skip)
 | (apply evOps_one; (case hg => rfl); (case h => (simp [evStep, evPure, h7, sp7, decL_enc, hc, e1, e2, e3]; with_reducible rfl)); skip)
 | (apply evOps_yes; (case hg => rfl); (case hb => (simp [gval, dstB, h7, sp7, decL_enc, hc, e1, e2, e3]; done)); (case h => (simp [evStep, evPure, h7, sp7, decL_enc, hc, e1, e2, e3]; with_reducible rfl)); skip)
 | (apply evOps_no; (case hg => rfl); (case hb => (simp [gval, dstB, h7, sp7, decL_enc, hc, e1, e2, e3]; with_reducible rfl)); (case hne => (simp; done)); (case hd => (simp [dstB]; done)); skip)
 | (apply evOps_big; (case hg => rfl); (case hd => (simp [dstB]; done)); (case hb => (simp [evBig, evStep, evPure, h7, sp7, decL_enc, hc, e1, e2, e3]; with_reducible rfl)); skip)
 | (apply evOps_bigYes; (case hg => rfl); (case hgv => (simp [gval, dstB, h7, sp7, decL_enc, hc, e1, e2, e3]; done)); (case hd => (simp [dstB]; done)); (case hb => (simp [evBig, evStep, evPure, h7, sp7, decL_enc, hc, e1, e2, e3]; with_reducible rfl)); skip)
 | (apply evOps_split; (case _hg => rfl); (case _ht => rfl); (case hb => (simp [dstB]; with_reducible rfl)); (case hv => ((fail_if_success (with_reducible exact (rfl : (_ : AV) = AV.d (.val (.bool true)) _))); (fail_if_success (with_reducible exact (rfl : (_ : AV) = AV.d (.val (.bool false)) _))); rfl)); skip)
 | (apply WP_cond; (case hx => (simp [St.eval, dstB, h7, sp7, decL_enc, hc, e1, e2, e3]; with_reducible rfl)); (case hv => rfl); skip))
    all_goals simp [Fin1, resVals, ownOf, FinList1, FinOne1, FinWr1, nodupB, Try.results8, needX, hc, evStep, evPure]
    all_goals first | done | omega | (intros; omega) | trace_state

set_option maxHeartbeats 1000000 in
theorem ok12 {T : Tbl} (hT : TblOk' Try.prog T) (h7 : T 7 = some sp7) (h26 : T 26 = some sp26) : FOk Try.prog 12 sp12 := by
  intro ins out h
  obtain ⟨n, l, p, rfl, rfl⟩ := sp12_inv h
  clear h
  refine at_of_body (D := D12) hT mix10 Try.func12 rfl (by simp [Try.ntmps12]) (fun ty => ?_)
  cases hc : checkX l
  · repeat' (first
 | (intro h; first | (exfalso; exact Bool.noConfusion h) | (simp only [decide_eq_true_eq, decide_eq_false_iff_not] at h) | skip)
 | (apply evOps_fin; (case hf => (simp only [finGo, app1]; rfl)); skip)
 | refine WP_seq ?_
 | refine WP_scope ?_
 | refine WP_block ?_
 | refine WP_ret ?_
 | refine WP_skip ?_
 | refine WP_exit ?_
 | (apply WP_region; (case hl => rfl); (case hc => (simp only [put_env', put_own', put_ctr', put_none', setOwn_env', setOwn_own', setOwn_ctr', setCtr_env', setCtr_own', setCtr_ctr', entry, entryEnv, entryOwn, inAV, scAV, inOB]; rfl)); (case hc' => (conv => lhs; simp only [List.size_toArray, List.length_cons, List.length_nil, Nat.zero_add, Nat.reduceAdd, Nat.add_assoc])); skip)
 | (apply WP_draw; (case hl => rfl); (case hds => (simp only [List.map_cons, List.map_nil]; rfl)); (case hc => (simp only [put_env', put_own', put_ctr', put_none', setOwn_env', setOwn_own', setOwn_ctr', setCtr_env', setCtr_own', setCtr_ctr', entry, entryEnv, entryOwn, inAV, scAV, inOB]; rfl)); (case hc' => (conv => lhs; simp only [List.size_toArray, List.length_cons, List.length_nil, Nat.zero_add, Nat.reduceAdd, Nat.add_assoc])); (case hD => rfl); (case hb => kernel_rfl); (case h1 => (simp only [List.take_succ_cons, List.take_zero]; rfl)); (case h2 => (simp only [List.drop_succ_cons, List.drop_zero]; rfl)); (case h3 => (simp only [List.take_succ_cons, List.take_zero]; rfl)); intro had; skip)
 | refine evOps_nil ?_
 | refine evQ_nil ?_
 | (apply evQ_one; (case had => assumption); (case hg => rfl); (case hd => (simp [dstB]; done)); (case h => (simp [evQuiet, evCallQ, known, njk, AV.isJunk, Op.operands, Call.operands, evEff, evStep, evPure, h7, sp7, decL_enc, hc]; with_reducible rfl)); (case hs => (simp; done)); (case hR => (simp only [List.nil_append, List.cons_append]; rfl)); skip)
 | (apply evQ_yes; (case had => assumption); (case hg => rfl); (case hb => (simp [gval, evEff, dstB, h7, sp7, decL_enc, hc]; done)); (case hd => (simp [dstB]; done)); (case h => (simp [evQuiet, evCallQ, known, njk, AV.isJunk, Op.operands, Call.operands, evEff, evStep, evPure, h7, sp7, decL_enc, hc]; with_reducible rfl)); (case hs => (simp; done)); (case hR => (simp only [List.nil_append, List.cons_append]; rfl)); skip)
 | (apply evQ_no; (case had => assumption); (case hg => rfl); (case hb => (simp [gval, evEff, dstB, h7, sp7, decL_enc, hc]; with_reducible rfl)); (case hne => (simp; done)); (case hd => (simp [dstB]; done)); (case hR => (simp only [List.nil_append, List.cons_append]; rfl)); skip)
 | (apply evQ_split; (case hg => rfl); (case hb => (simp only [List.getElem?_cons_succ, List.getElem?_cons_zero]; rfl)); (case hv => ((fail_if_success (with_reducible exact (rfl : (_ : QR) = (AV.d (.val (.bool true)) _, none)))); (fail_if_success (with_reducible exact (rfl : (_ : QR) = (AV.d (.val (.bool false)) _, none)))); rfl)); (case hT => (simp only [List.set_cons_succ, List.set_cons_zero]; rfl)); (case hF => (simp only [List.set_cons_succ, List.set_cons_zero]; rfl)); skip)
 | (apply evOps_one; (case hg => rfl); (case h => (simp [evStep, evPure, h7, sp7, decL_enc, hc]; with_reducible rfl)); skip)
 | (apply evOps_yes; (case hg => rfl); (case hb => (simp [gval, dstB, h7, sp7, decL_enc, hc]; done)); (case h => (simp [evStep, evPure, h7, sp7, decL_enc, hc]; with_reducible rfl)); skip)
 | (apply evOps_no; (case hg => rfl); (case hb => (simp [gval, dstB, h7, sp7, decL_enc, hc]; with_reducible rfl)); (case hne => (simp; done)); (case hd => (simp [dstB]; done)); skip)
 | (apply evOps_big; (case hg => rfl); (case hd => (simp [dstB]; done)); (case hb => (simp [evBig, evStep, evPure, h7, sp7, decL_enc, hc]; with_reducible rfl)); skip)
 | (apply evOps_bigYes; (case hg => rfl); (case hgv => (simp [gval, dstB, h7, sp7, decL_enc, hc]; done)); (case hd => (simp [dstB]; done)); (case hb => (simp [evBig, evStep, evPure, h7, sp7, decL_enc, hc]; with_reducible rfl)); skip)
 | (apply evOps_split; (case _hg => rfl); (case _ht => rfl); (case hb => (simp [dstB]; with_reducible rfl)); (case hv => ((fail_if_success (with_reducible exact (rfl : (_ : AV) = AV.d (.val (.bool true)) _))); (fail_if_success (with_reducible exact (rfl : (_ : AV) = AV.d (.val (.bool false)) _))); rfl)); skip)
 | (apply WP_cond; (case hx => (simp [St.eval, dstB, h7, sp7, decL_enc, hc]; with_reducible rfl)); (case hv => rfl); skip))
    all_goals simp [Fin1, resVals, ownOf, FinList1, FinOne1, FinWr1, nodupB, Try.results12, findX, hc, evStep, evPure]
  · obtain ⟨hok, hlen, _⟩ := check_ok hc
    have hle := behindX_le l p
    obtain ⟨i, hi⟩ : ∃ i, behindX l p = i := ⟨_, rfl⟩
    rw [hi] at hle
    by_cases hil : i < l.length
    · obtain ⟨e, he⟩ : ∃ e, l[i]? = some e := ⟨_, List.getElem?_eq_getElem hil⟩
      have hne : ¬ i = l.length := by omega
      repeat' (first
 | (intro h; first | (exfalso; exact Bool.noConfusion h) | (simp only [decide_eq_true_eq, decide_eq_false_iff_not] at h) | skip)
 | (apply evOps_fin; (case hf => (simp only [finGo, app1]; rfl)); skip)
 | refine WP_seq ?_
 | refine WP_scope ?_
 | refine WP_block ?_
 | refine WP_ret ?_
 | refine WP_skip ?_
 | refine WP_exit ?_
 | (apply WP_region; (case hl => rfl); (case hc => (simp only [put_env', put_own', put_ctr', put_none', setOwn_env', setOwn_own', setOwn_ctr', setCtr_env', setCtr_own', setCtr_ctr', entry, entryEnv, entryOwn, inAV, scAV, inOB]; rfl)); (case hc' => (conv => lhs; simp only [List.size_toArray, List.length_cons, List.length_nil, Nat.zero_add, Nat.reduceAdd, Nat.add_assoc])); skip)
 | (apply WP_draw; (case hl => rfl); (case hds => (simp only [List.map_cons, List.map_nil]; rfl)); (case hc => (simp only [put_env', put_own', put_ctr', put_none', setOwn_env', setOwn_own', setOwn_ctr', setCtr_env', setCtr_own', setCtr_ctr', entry, entryEnv, entryOwn, inAV, scAV, inOB]; rfl)); (case hc' => (conv => lhs; simp only [List.size_toArray, List.length_cons, List.length_nil, Nat.zero_add, Nat.reduceAdd, Nat.add_assoc])); (case hD => rfl); (case hb => kernel_rfl); (case h1 => (simp only [List.take_succ_cons, List.take_zero]; rfl)); (case h2 => (simp only [List.drop_succ_cons, List.drop_zero]; rfl)); (case h3 => (simp only [List.take_succ_cons, List.take_zero]; rfl)); intro had; skip)
 | refine evOps_nil ?_
 | refine evQ_nil ?_
 | (apply evQ_one; (case had => assumption); (case hg => rfl); (case hd => (simp [dstB]; done)); (case h => (simp [evQuiet, evCallQ, known, njk, AV.isJunk, Op.operands, Call.operands, evEff, evStep, evPure, h7, sp7, h26, sp26, decL_enc, hc, hok, hi, he, hne, Xt.enc]; with_reducible rfl)); (case hs => (simp; done)); (case hR => (simp only [List.nil_append, List.cons_append]; rfl)); skip)
 | (apply evQ_yes; (case had => assumption); (case hg => rfl); (case hb => (simp [gval, evEff, dstB, h7, sp7, h26, sp26, decL_enc, hc, hok, hi, he, hne, Xt.enc]; done)); (case hd => (simp [dstB]; done)); (case h => (simp [evQuiet, evCallQ, known, njk, AV.isJunk, Op.operands, Call.operands, evEff, evStep, evPure, h7, sp7, h26, sp26, decL_enc, hc, hok, hi, he, hne, Xt.enc]; with_reducible rfl)); (case hs => (simp; done)); (case hR => (simp only [List.nil_append, List.cons_append]; rfl)); skip)
 | (apply evQ_no; (case had => assumption); (case hg => rfl); (case hb => (simp [gval, evEff, dstB, h7, sp7, h26, sp26, decL_enc, hc, hok, hi, he, hne, Xt.enc]; with_reducible rfl)); (case hne => (simp; done)); (case hd => (simp [dstB]; done)); (case hR => (simp only [List.nil_append, List.cons_append]; rfl)); skip)
 | (apply evQ_split; (case hg => rfl); (case hb => (simp only [List.getElem?_cons_succ, List.getElem?_cons_zero]; rfl)); (case hv => ((fail_if_success (with_reducible exact (rfl : (_ : QR) = (AV.d (.val (.bool true)) _, none)))); (fail_if_success (with_reducible exact (rfl : (_ : QR) = (AV.d (.val (.bool false)) _, none)))); rfl)); (case hT => (simp only [List.set_cons_succ, List.set_cons_zero]; rfl)); (case hF => (simp only [List.set_cons_succ, List.set_cons_zero]; rfl)); skip)
 | (apply evOps_one; (case hg => rfl); (case h => (simp [evStep, evPure, h7, sp7, h26, sp26, decL_enc, hc, hok, hi, he, hne, Xt.enc]; with_reducible rfl)); skip)
 | (apply evOps_yes; (case hg => rfl); (case hb => (simp [gval, dstB, h7, sp7, h26, sp26, decL_enc, hc, hok, hi, he, hne, Xt.enc]; done)); (case h => (simp [evStep, evPure, h7, sp7, h26, sp26, decL_enc, hc, hok, hi, he, hne, Xt.enc]; with_reducible rfl)); skip)
 | (apply evOps_no; (case hg => rfl); (case hb => (simp [gval, dstB, h7, sp7, h26, sp26, decL_enc, hc, hok, hi, he, hne, Xt.enc]; with_reducible rfl)); (case hne => (simp; done)); (case hd => (simp [dstB]; done)); skip)
 | (apply evOps_big; (case hg => rfl); (case hd => (simp [dstB]; done)); (case hb => (simp [evBig, evStep, evPure, h7, sp7, h26, sp26, decL_enc, hc, hok, hi, he, hne, Xt.enc]; with_reducible rfl)); skip)
 | (apply evOps_bigYes; (case hg => rfl); (case hgv => (simp [gval, dstB, h7, sp7, h26, sp26, decL_enc, hc, hok, hi, he, hne, Xt.enc]; done)); (case hd => (simp [dstB]; done)); (case hb => (simp [evBig, evStep, evPure, h7, sp7, h26, sp26, decL_enc, hc, hok, hi, he, hne, Xt.enc]; with_reducible rfl)); skip)
 | (apply evOps_split; (case _hg => rfl); (case _ht => rfl); (case hb => (simp [dstB]; with_reducible rfl)); (case hv => ((fail_if_success (with_reducible exact (rfl : (_ : AV) = AV.d (.val (.bool true)) _))); (fail_if_success (with_reducible exact (rfl : (_ : AV) = AV.d (.val (.bool false)) _))); rfl)); skip)
 | (apply WP_cond; (case hx => (simp [St.eval, dstB, h7, sp7, h26, sp26, decL_enc, hc, hok, hi, he, hne, Xt.enc]; with_reducible rfl)); (case hv => rfl); skip))
      all_goals simp [Fin1, resVals, ownOf, FinList1, FinOne1, FinWr1, nodupB, Try.results12, findX, hc, hi, he, evStep, evPure]
      all_goals first
        | done
        | (have h0 : ¬ 0 ≤ p := (by omega); simp [h0]; done)
        | (have h0 : 0 ≤ p := (by omega); have h1 : p < e.at' := (by omega); simp [h0, h1]; done)
        | (have h0 : 0 ≤ p := (by omega); have h1 : ¬ p < e.at' := (by omega); simp [h0, h1]; done)
        | trace_state
    · have hie : i = l.length := by omega
      have hnone : l[l.length]? = none := List.getElem?_eq_none (Nat.le_refl _)
      repeat' (first
 | (intro h; first | (exfalso; exact Bool.noConfusion h) | (simp only [decide_eq_true_eq, decide_eq_false_iff_not] at h) | skip)
 | (apply evOps_fin; (case hf => (simp only [finGo, app1]; rfl)); skip)
 | refine WP_seq ?_
 | refine WP_scope ?_
 | refine WP_block ?_
 | refine WP_ret ?_
 | refine WP_skip ?_
 | refine WP_exit ?_
 | (apply WP_region; (case hl => rfl); (case hc => (simp only [put_env', put_own', put_ctr', put_none', setOwn_env', setOwn_own', setOwn_ctr', setCtr_env', setCtr_own', setCtr_ctr', entry, entryEnv, entryOwn, inAV, scAV, inOB]; rfl)); (case hc' => (conv => lhs; simp only [List.size_toArray, List.length_cons, List.length_nil, Nat.zero_add, Nat.reduceAdd, Nat.add_assoc])); skip)
 | (apply WP_draw; (case hl => rfl); (case hds => (simp only [List.map_cons, List.map_nil]; rfl)); (case hc => (simp only [put_env', put_own', put_ctr', put_none', setOwn_env', setOwn_own', setOwn_ctr', setCtr_env', setCtr_own', setCtr_ctr', entry, entryEnv, entryOwn, inAV, scAV, inOB]; rfl)); (case hc' => (conv => lhs; simp only [List.size_toArray, List.length_cons, List.length_nil, Nat.zero_add, Nat.reduceAdd, Nat.add_assoc])); (case hD => rfl); (case hb => kernel_rfl); (case h1 => (simp only [List.take_succ_cons, List.take_zero]; rfl)); (case h2 => (simp only [List.drop_succ_cons, List.drop_zero]; rfl)); (case h3 => (simp only [List.take_succ_cons, List.take_zero]; rfl)); intro had; skip)
 | refine evOps_nil ?_
 | refine evQ_nil ?_
 | (apply evQ_one; (case had => assumption); (case hg => rfl); (case hd => (simp [dstB]; done)); (case h => (simp [evQuiet, evCallQ, known, njk, AV.isJunk, Op.operands, Call.operands, evEff, evStep, evPure, h7, sp7, h26, sp26, decL_enc, hc, hok, hi, hie]; with_reducible rfl)); (case hs => (simp; done)); (case hR => (simp only [List.nil_append, List.cons_append]; rfl)); skip)
 | (apply evQ_yes; (case had => assumption); (case hg => rfl); (case hb => (simp [gval, evEff, dstB, h7, sp7, h26, sp26, decL_enc, hc, hok, hi, hie]; done)); (case hd => (simp [dstB]; done)); (case h => (simp [evQuiet, evCallQ, known, njk, AV.isJunk, Op.operands, Call.operands, evEff, evStep, evPure, h7, sp7, h26, sp26, decL_enc, hc, hok, hi, hie]; with_reducible rfl)); (case hs => (simp; done)); (case hR => (simp only [List.nil_append, List.cons_append]; rfl)); skip)
 | (apply evQ_no; (case had => assumption); (case hg => rfl); (case hb => (simp [gval, evEff, dstB, h7, sp7, h26, sp26, decL_enc, hc, hok, hi, hie]; with_reducible rfl)); (case hne => (simp; done)); (case hd => (simp [dstB]; done)); (case hR => (simp only [List.nil_append, List.cons_append]; rfl)); skip)
 | (apply evQ_split; (case hg => rfl); (case hb => (simp only [List.getElem?_cons_succ, List.getElem?_cons_zero]; rfl)); (case hv => ((fail_if_success (with_reducible exact (rfl : (_ : QR) = (AV.d (.val (.bool true)) _, none)))); (fail_if_success (with_reducible exact (rfl : (_ : QR) = (AV.d (.val (.bool false)) _, none)))); rfl)); (case hT => (simp only [List.set_cons_succ, List.set_cons_zero]; rfl)); (case hF => (simp only [List.set_cons_succ, List.set_cons_zero]; rfl)); skip)
 | (apply evOps_one; (case hg => rfl); (case h => (simp [evStep, evPure, h7, sp7, h26, sp26, decL_enc, hc, hok, hi, hie]; with_reducible rfl)); skip)
 | (apply evOps_yes; (case hg => rfl); (case hb => (simp [gval, dstB, h7, sp7, h26, sp26, decL_enc, hc, hok, hi, hie]; done)); (case h => (simp [evStep, evPure, h7, sp7, h26, sp26, decL_enc, hc, hok, hi, hie]; with_reducible rfl)); skip)
 | (apply evOps_no; (case hg => rfl); (case hb => (simp [gval, dstB, h7, sp7, h26, sp26, decL_enc, hc, hok, hi, hie]; with_reducible rfl)); (case hne => (simp; done)); (case hd => (simp [dstB]; done)); skip)
 | (apply evOps_big; (case hg => rfl); (case hd => (simp [dstB]; done)); (case hb => (simp [evBig, evStep, evPure, h7, sp7, h26, sp26, decL_enc, hc, hok, hi, hie]; with_reducible rfl)); skip)
 | (apply evOps_bigYes; (case hg => rfl); (case hgv => (simp [gval, dstB, h7, sp7, h26, sp26, decL_enc, hc, hok, hi, hie]; done)); (case hd => (simp [dstB]; done)); (case hb => (simp [evBig, evStep, evPure, h7, sp7, h26, sp26, decL_enc, hc, hok, hi, hie]; with_reducible rfl)); skip)
 | (apply evOps_split; (case _hg => rfl); (case _ht => rfl); (case hb => (simp [dstB]; with_reducible rfl)); (case hv => ((fail_if_success (with_reducible exact (rfl : (_ : AV) = AV.d (.val (.bool true)) _))); (fail_if_success (with_reducible exact (rfl : (_ : AV) = AV.d (.val (.bool false)) _))); rfl)); skip)
 | (apply WP_cond; (case hx => (simp [St.eval, dstB, h7, sp7, h26, sp26, decL_enc, hc, hok, hi, hie]; with_reducible rfl)); (case hv => rfl); skip))
      all_goals simp [Fin1, resVals, ownOf, FinList1, FinOne1, FinWr1, nodupB, Try.results12, findX, hc, hi, hie, hnone, evStep, evPure]
      all_goals first | done | (simp [*]; done) | omega | trace_state
end Go.Dv

/-
  DERIVED, MY OWN. THE WALK OF slices.Clone.
-/


set_option autoImplicit false
set_option maxRecDepth 20000
set_option linter.unusedSimpArgs false
set_option linter.unusedVariables false
namespace Go.Dv
open Go Go.RowKit Go.Proofs

theorem all_enc (l : List Xt) : (l.map Xt.enc).all (fun c => c.length == 4) = true := by
  rw [List.all_eq_true]; intro c hc; obtain ⟨e, _, rfl⟩ := List.mem_map.1 hc; rfl

theorem enc_length (e : Xt) : e.enc.length = 4 := rfl
theorem newsOf_enc {P : Program} {σ : St} {e : TypeId} (h : szOf P e = 4) (n : Bool) (l : List Xt) (fr : Bool) : newsOf P σ e (.d (.sl n (l.map Xt.enc)) fr) = some (l.map Xt.enc, fr) := by
  unfold newsOf
  simp only [h]
  rw [if_pos (all_enc l)]

theorem ok28 {T : Tbl} (hT : TblOk' Try.prog T) : FOk Try.prog 28 sp28 := by
  intro ins out h
  obtain ⟨n, l, rfl, hlen, hn, rfl⟩ := sp28_inv h
  clear h
  refine at_of_body (D := D0) hT mix10 Try.func28 rfl (by simp [Try.ntmps28]) (fun ty => ?_)
  have hb : (l.length : Int) * 32 ≤ 140737488355328 := by omega
  have hb2 : l.length * 32 ≤ 140737488355328 := by omega
  have hb4 : l.length ≤ 140737488355328 := by omega
  have hb3 : l.length ≤ 4398046511104 := by omega
  cases n
  · repeat' (first
 | (intro h; first | (exfalso; exact Bool.noConfusion h) | (simp only [decide_eq_true_eq, decide_eq_false_iff_not] at h) | skip)
 | (apply evOps_fin; (case hf => (simp only [finGo, app1]; rfl)); skip)
 | refine WP_seq ?_
 | refine WP_scope ?_
 | refine WP_block ?_
 | refine WP_ret ?_
 | refine WP_skip ?_
 | refine WP_exit ?_
 | (apply WP_region; (case hl => rfl); (case hc => (simp only [put_env', put_own', put_ctr', put_none', setOwn_env', setOwn_own', setOwn_ctr', setCtr_env', setCtr_own', setCtr_ctr', entry, entryEnv, entryOwn, inAV, scAV, inOB]; rfl)); (case hc' => (conv => lhs; simp only [List.size_toArray, List.length_cons, List.length_nil, Nat.zero_add, Nat.reduceAdd, Nat.add_assoc])); skip)
 | refine evOps_nil ?_
 | (apply evOps_one; (case hg => rfl); (case h => (simp [evStep, evPure, hb, hb2, hb3, hb4, enc_length]; with_reducible rfl)); skip)
 | (apply evOps_yes; (case hg => rfl); (case hb => (simp [gval, dstB, hb, hb2, hb3, hb4, enc_length]; done)); (case h => (simp [evStep, evPure, hb, hb2, hb3, hb4, enc_length]; with_reducible rfl)); skip)
 | (apply evOps_no; (case hg => rfl); (case hb => (simp [gval, dstB, hb, hb2, hb3, hb4, enc_length]; with_reducible rfl)); (case hne => (simp; done)); (case hd => (simp [dstB]; done)); skip)
 | (apply evOps_big; (case hg => rfl); (case hd => (simp [dstB]; done)); (case hb => (simp [evBig, evStep, evPure, hb, hb2, hb3, hb4, enc_length]; with_reducible rfl)); skip)
 | (apply evOps_bigYes; (case hg => rfl); (case hgv => (simp [gval, dstB, hb, hb2, hb3, hb4, enc_length]; done)); (case hd => (simp [dstB]; done)); (case hb => (simp [evBig, evStep, evPure, hb, hb2, hb3, hb4, enc_length]; with_reducible rfl)); skip)
 | (apply evOps_split; (case _hg => rfl); (case _ht => rfl); (case hb => (simp [dstB]; with_reducible rfl)); (case hv => ((fail_if_success (with_reducible exact (rfl : (_ : AV) = AV.d (.val (.bool true)) _))); (fail_if_success (with_reducible exact (rfl : (_ : AV) = AV.d (.val (.bool false)) _))); rfl)); skip)
 | (apply WP_cond; (case hx => (simp [St.eval, dstB, hb, hb2, hb3, hb4, enc_length]; with_reducible rfl)); (case hv => rfl); skip))
    all_goals simp [Fin1, resVals, ownOf, FinList1, FinOne1, FinWr1, nodupB, Try.results28, valRow_enc, out28, evStep, evPure]
  · obtain rfl := hn rfl
    repeat' (first
 | (intro h; first | (exfalso; exact Bool.noConfusion h) | (simp only [decide_eq_true_eq, decide_eq_false_iff_not] at h) | skip)
 | (apply evOps_fin; (case hf => (simp only [finGo, app1]; rfl)); skip)
 | refine WP_seq ?_
 | refine WP_scope ?_
 | refine WP_block ?_
 | refine WP_ret ?_
 | refine WP_skip ?_
 | refine WP_exit ?_
 | (apply WP_region; (case hl => rfl); (case hc => (simp only [put_env', put_own', put_ctr', put_none', setOwn_env', setOwn_own', setOwn_ctr', setCtr_env', setCtr_own', setCtr_ctr', entry, entryEnv, entryOwn, inAV, scAV, inOB]; rfl)); (case hc' => (conv => lhs; simp only [List.size_toArray, List.length_cons, List.length_nil, Nat.zero_add, Nat.reduceAdd, Nat.add_assoc])); skip)
 | refine evOps_nil ?_
 | (apply evOps_one; (case hg => rfl); (case h => (simp [evStep, evPure, hb, hb2, hb3, hb4, enc_length]; with_reducible rfl)); skip)
 | (apply evOps_yes; (case hg => rfl); (case hb => (simp [gval, dstB, hb, hb2, hb3, hb4, enc_length]; done)); (case h => (simp [evStep, evPure, hb, hb2, hb3, hb4, enc_length]; with_reducible rfl)); skip)
 | (apply evOps_no; (case hg => rfl); (case hb => (simp [gval, dstB, hb, hb2, hb3, hb4, enc_length]; with_reducible rfl)); (case hne => (simp; done)); (case hd => (simp [dstB]; done)); skip)
 | (apply evOps_big; (case hg => rfl); (case hd => (simp [dstB]; done)); (case hb => (simp [evBig, evStep, evPure, hb, hb2, hb3, hb4, enc_length]; with_reducible rfl)); skip)
 | (apply evOps_bigYes; (case hg => rfl); (case hgv => (simp [gval, dstB, hb, hb2, hb3, hb4, enc_length]; done)); (case hd => (simp [dstB]; done)); (case hb => (simp [evBig, evStep, evPure, hb, hb2, hb3, hb4, enc_length]; with_reducible rfl)); skip)
 | (apply evOps_split; (case _hg => rfl); (case _ht => rfl); (case hb => (simp [dstB]; with_reducible rfl)); (case hv => ((fail_if_success (with_reducible exact (rfl : (_ : AV) = AV.d (.val (.bool true)) _))); (fail_if_success (with_reducible exact (rfl : (_ : AV) = AV.d (.val (.bool false)) _))); rfl)); skip)
 | (apply WP_cond; (case hx => (simp [St.eval, dstB, hb, hb2, hb3, hb4, enc_length]; with_reducible rfl)); (case hv => rfl); skip))
    all_goals simp [Fin1, resVals, ownOf, FinList1, FinOne1, FinWr1, nodupB, Try.results28, valRow_enc, out28, evStep, evPure]
end Go.Dv

/-
  DERIVED, MY OWN. THE WALK OF merged.
-/


set_option autoImplicit false
set_option maxRecDepth 20000
set_option linter.unusedSimpArgs false
set_option linter.unusedVariables false
namespace Go.Dv
open Go Go.RowKit Go.Proofs

def D29 : Dep := fun
  | 6 => (11, [[], [0], [0, 1], [0, 1, 2], [0, 1, 2], [0, 1, 2, 4], [0, 1, 2, 3, 4, 5], [0, 1, 2, 3, 4, 5, 6], [0, 1, 2], [0, 1, 2, 3, 4, 5, 6, 7, 8], [0, 1, 2, 3, 4, 5, 6, 7, 8, 9]])
  | 7 => (11, [[], [], [1], [0, 1, 2], [0, 1, 2, 3], [0, 1, 2, 3, 4], [], [6], [0, 1, 2, 3, 4, 5, 6, 7], [0, 1, 2, 3, 4, 5, 6, 7, 8], [0, 1, 2, 3, 4, 5, 6, 7, 8, 9], [0, 1, 2, 3, 4, 5, 6, 7, 8, 9, 10]])
  | _ => (0, [])

set_option maxHeartbeats 2000000 in
theorem ok29 {T : Tbl} (hT : TblOk' Try.prog T) (h24 : T 24 = some sp24) : FOk Try.prog 29 sp29 := by
  intro ins out h
  obtain ⟨n, l, rfl, hlen, rfl⟩ := sp29_inv h
  clear h
  refine at_of_body (D := D29) hT mix10 Try.func29 rfl (by simp [Try.ntmps29]) (fun ty => ?_)
  repeat' (first
 | (intro h; first | (exfalso; exact Bool.noConfusion h) | (simp only [decide_eq_true_eq, decide_eq_false_iff_not] at h) | skip)
 | (apply evOps_fin; (case hf => (simp only [finGo, app1]; rfl)); skip)
 | refine WP_seq ?_
 | refine WP_scope ?_
 | refine WP_block ?_
 | refine WP_ret ?_
 | refine WP_skip ?_
 | refine WP_exit ?_
 | (apply WP_region; (case hl => rfl); (case hc => (simp only [put_env', put_own', put_ctr', put_none', setOwn_env', setOwn_own', setOwn_ctr', setCtr_env', setCtr_own', setCtr_ctr', entry, entryEnv, entryOwn, inAV, scAV, inOB]; rfl)); (case hc' => (conv => lhs; simp only [List.size_toArray, List.length_cons, List.length_nil, Nat.zero_add, Nat.reduceAdd, Nat.add_assoc])); skip)
 | (apply WP_draw; (case hl => rfl); (case hds => (simp only [List.map_cons, List.map_nil]; rfl)); (case hc => (simp only [put_env', put_own', put_ctr', put_none', setOwn_env', setOwn_own', setOwn_ctr', setCtr_env', setCtr_own', setCtr_ctr', entry, entryEnv, entryOwn, inAV, scAV, inOB]; rfl)); (case hc' => (conv => lhs; simp only [List.size_toArray, List.length_cons, List.length_nil, Nat.zero_add, Nat.reduceAdd, Nat.add_assoc])); (case hD => rfl); (case hb => kernel_rfl); (case h1 => (simp only [List.take_succ_cons, List.take_zero]; rfl)); (case h2 => (simp only [List.drop_succ_cons, List.drop_zero]; rfl)); (case h3 => (simp only [List.take_succ_cons, List.take_zero]; rfl)); intro had; skip)
 | refine evOps_nil ?_
 | refine evQ_nil ?_
 | (apply evQ_one; (case had => assumption); (case hg => rfl); (case hd => (simp [dstB]; done)); (case h => (simp [evQuiet, evCallQ, known, njk, AV.isJunk, Op.operands, Call.operands, evEff, evStep, evPure]; with_reducible rfl)); (case hs => (simp; done)); (case hR => (simp only [List.nil_append, List.cons_append]; rfl)); skip)
 | (apply evQ_yes; (case had => assumption); (case hg => rfl); (case hb => (simp [gval, evEff, dstB]; done)); (case hd => (simp [dstB]; done)); (case h => (simp [evQuiet, evCallQ, known, njk, AV.isJunk, Op.operands, Call.operands, evEff, evStep, evPure]; with_reducible rfl)); (case hs => (simp; done)); (case hR => (simp only [List.nil_append, List.cons_append]; rfl)); skip)
 | (apply evQ_no; (case had => assumption); (case hg => rfl); (case hb => (simp [gval, evEff, dstB]; with_reducible rfl)); (case hne => (simp; done)); (case hd => (simp [dstB]; done)); (case hR => (simp only [List.nil_append, List.cons_append]; rfl)); skip)
 | (apply evQ_split; (case hg => rfl); (case hb => (simp only [List.getElem?_cons_succ, List.getElem?_cons_zero]; rfl)); (case hv => ((fail_if_success (with_reducible exact (rfl : (_ : QR) = (AV.d (.val (.bool true)) _, none)))); (fail_if_success (with_reducible exact (rfl : (_ : QR) = (AV.d (.val (.bool false)) _, none)))); rfl)); (case hT => (simp only [List.set_cons_succ, List.set_cons_zero]; rfl)); (case hF => (simp only [List.set_cons_succ, List.set_cons_zero]; rfl)); skip)
 | (apply evOps_one; (case hg => rfl); (case h => (simp [evStep, evPure]; with_reducible rfl)); skip)
 | (apply evOps_yes; (case hg => rfl); (case hb => (simp [gval, dstB]; done)); (case h => (simp [evStep, evPure]; with_reducible rfl)); skip)
 | (apply evOps_no; (case hg => rfl); (case hb => (simp [gval, dstB]; with_reducible rfl)); (case hne => (simp; done)); (case hd => (simp [dstB]; done)); skip)
 | (apply evOps_big; (case hg => rfl); (case hd => (simp [dstB]; done)); (case hb => (simp [evBig, evStep, evPure]; with_reducible rfl)); skip)
 | (apply evOps_bigYes; (case hg => rfl); (case hgv => (simp [gval, dstB]; done)); (case hd => (simp [dstB]; done)); (case hb => (simp [evBig, evStep, evPure]; with_reducible rfl)); skip)
 | (apply evOps_split; (case _hg => rfl); (case _ht => rfl); (case hb => (simp [dstB]; with_reducible rfl)); (case hv => ((fail_if_success (with_reducible exact (rfl : (_ : AV) = AV.d (.val (.bool true)) _))); (fail_if_success (with_reducible exact (rfl : (_ : AV) = AV.d (.val (.bool false)) _))); rfl)); skip)
 | (apply WP_cond; (case hx => (simp [St.eval, dstB]; with_reducible rfl)); (case hv => rfl); skip))
  refine WP_loop (fun k σ1 => ∃ (i : Nat), i ≤ l.length ∧ k = l.length - i ∧
    σ1.env 8 = .d (.sl n (l.map Xt.enc)) false ∧ σ1.env 9 = .d (vi l.length) true ∧ σ1.env 10 = .d (vi i) true ∧
    ((i = 0 ∧ σ1.env 4 = .d (.sl true []) true) ∨ (0 < i ∧ ∃ g fr, σ1.env 4 = .rs 41 g 0 (mergeX (l.take i)).length ∧ σ1.own 41 = some (.row 24 4 g true false fr ((mergeX (l.take i)).map Xt.enc))))) l.length (gc [4, 8, 9, 10] [41] _) (gc_forget _ _ _) ?_ ?_
  · refine ⟨0, Nat.zero_le _, rfl, ?_, ?_, ?_, .inl ⟨rfl, ?_⟩⟩
    all_goals simp [gc, restrictEnv, restrictOwn, dstB]
  · rintro k σ1 ⟨i, hil, rfl, h8, h9, h10, h4⟩
    by_cases hlt : i < l.length
    · obtain ⟨e, he⟩ : ∃ e, l[i]? = some e := ⟨_, List.getElem?_eq_getElem hlt⟩
      have hlt' : (i : Int) < (l.length : Int) := by omega
      rcases h4 with ⟨rfl, h4⟩ | ⟨hi0, g, fr, h4, o4⟩
      · have hs : mergeX (l.take (0 + 1)) = [e] := by rw [mergeX_take l he]; rfl
        repeat' (first
 | (intro h; first | (exfalso; exact Bool.noConfusion h) | (simp only [decide_eq_true_eq, decide_eq_false_iff_not] at h) | skip)
 | (apply evOps_fin; (case hf => (simp only [finGo, app1]; rfl)); skip)
 | refine WP_seq ?_
 | refine WP_scope ?_
 | refine WP_block ?_
 | refine WP_ret ?_
 | refine WP_skip ?_
 | refine WP_exit ?_
 | (apply WP_region; (case hl => rfl); (case hc => (simp only [put_env', put_own', put_ctr', put_none', setOwn_env', setOwn_own', setOwn_ctr', setCtr_env', setCtr_own', setCtr_ctr', entry, entryEnv, entryOwn, inAV, scAV, inOB]; rfl)); (case hc' => (conv => lhs; simp only [List.size_toArray, List.length_cons, List.length_nil, Nat.zero_add, Nat.reduceAdd, Nat.add_assoc])); skip)
 | (apply WP_draw; (case hl => rfl); (case hds => (simp only [List.map_cons, List.map_nil]; rfl)); (case hc => (simp only [put_env', put_own', put_ctr', put_none', setOwn_env', setOwn_own', setOwn_ctr', setCtr_env', setCtr_own', setCtr_ctr', entry, entryEnv, entryOwn, inAV, scAV, inOB]; rfl)); (case hc' => (conv => lhs; simp only [List.size_toArray, List.length_cons, List.length_nil, Nat.zero_add, Nat.reduceAdd, Nat.add_assoc])); (case hD => rfl); (case hb => kernel_rfl); (case h1 => (simp only [List.take_succ_cons, List.take_zero]; rfl)); (case h2 => (simp only [List.drop_succ_cons, List.drop_zero]; rfl)); (case h3 => (simp only [List.take_succ_cons, List.take_zero]; rfl)); intro had; skip)
 | refine evOps_nil ?_
 | refine evQ_nil ?_
 | (apply evQ_one; (case had => assumption); (case hg => rfl); (case hd => (simp [dstB]; done)); (case h => (simp [evQuiet, evCallQ, known, njk, AV.isJunk, Op.operands, Call.operands, evEff, evStep, evPure, h8, h9, h10, h4, hlt', he, Xt.enc]; with_reducible rfl)); (case hs => (simp; done)); (case hR => (simp only [List.nil_append, List.cons_append]; rfl)); skip)
 | (apply evQ_yes; (case had => assumption); (case hg => rfl); (case hb => (simp [gval, evEff, dstB, h8, h9, h10, h4, hlt', he, Xt.enc]; done)); (case hd => (simp [dstB]; done)); (case h => (simp [evQuiet, evCallQ, known, njk, AV.isJunk, Op.operands, Call.operands, evEff, evStep, evPure, h8, h9, h10, h4, hlt', he, Xt.enc]; with_reducible rfl)); (case hs => (simp; done)); (case hR => (simp only [List.nil_append, List.cons_append]; rfl)); skip)
 | (apply evQ_no; (case had => assumption); (case hg => rfl); (case hb => (simp [gval, evEff, dstB, h8, h9, h10, h4, hlt', he, Xt.enc]; with_reducible rfl)); (case hne => (simp; done)); (case hd => (simp [dstB]; done)); (case hR => (simp only [List.nil_append, List.cons_append]; rfl)); skip)
 | (apply evQ_split; (case hg => rfl); (case hb => (simp only [List.getElem?_cons_succ, List.getElem?_cons_zero]; rfl)); (case hv => ((fail_if_success (with_reducible exact (rfl : (_ : QR) = (AV.d (.val (.bool true)) _, none)))); (fail_if_success (with_reducible exact (rfl : (_ : QR) = (AV.d (.val (.bool false)) _, none)))); rfl)); (case hT => (simp only [List.set_cons_succ, List.set_cons_zero]; rfl)); (case hF => (simp only [List.set_cons_succ, List.set_cons_zero]; rfl)); skip)
 | (apply evOps_one; (case hg => rfl); (case h => (simp [evStep, evPure, h8, h9, h10, h4, hlt', he, Xt.enc]; with_reducible rfl)); skip)
 | (apply evOps_yes; (case hg => rfl); (case hb => (simp [gval, dstB, h8, h9, h10, h4, hlt', he, Xt.enc]; done)); (case h => (simp [evStep, evPure, h8, h9, h10, h4, hlt', he, Xt.enc]; with_reducible rfl)); skip)
 | (apply evOps_no; (case hg => rfl); (case hb => (simp [gval, dstB, h8, h9, h10, h4, hlt', he, Xt.enc]; with_reducible rfl)); (case hne => (simp; done)); (case hd => (simp [dstB]; done)); skip)
 | (apply evOps_big; (case hg => rfl); (case hd => (simp [dstB]; done)); (case hb => (simp [evBig, evStep, evPure, h8, h9, h10, h4, hlt', he, Xt.enc]; with_reducible rfl)); skip)
 | (apply evOps_bigYes; (case hg => rfl); (case hgv => (simp [gval, dstB, h8, h9, h10, h4, hlt', he, Xt.enc]; done)); (case hd => (simp [dstB]; done)); (case hb => (simp [evBig, evStep, evPure, h8, h9, h10, h4, hlt', he, Xt.enc]; with_reducible rfl)); skip)
 | (apply evOps_split; (case _hg => rfl); (case _ht => rfl); (case hb => (simp [dstB]; with_reducible rfl)); (case hv => ((fail_if_success (with_reducible exact (rfl : (_ : AV) = AV.d (.val (.bool true)) _))); (fail_if_success (with_reducible exact (rfl : (_ : AV) = AV.d (.val (.bool false)) _))); rfl)); skip)
 | (apply WP_cond; (case hx => (simp [St.eval, dstB, h8, h9, h10, h4, hlt', he, Xt.enc]; with_reducible rfl)); (case hv => rfl); skip))
        rotate_left
        · exact absurd hlt (by assumption)
        refine ⟨l.length - (0 + 1), gc [4, 8, 9, 10] [41] _, by omega, gc_forget _ _ _, 0 + 1, by omega, rfl, ?_, ?_, ?_, .inr ⟨by omega, ?_⟩⟩
        case refine_4 =>
          rw [hs]
          exact ⟨_, _, by simp [gc, restrictEnv, dstB]; rfl, by simp [gc, restrictOwn, dstB, Xt.enc]; rfl⟩
        all_goals simp [gc, restrictEnv, restrictOwn, dstB, h8, h9, h10, w64_in]
      · have hpos := mergeX_pos l hi0 hil
        have hle := mergeX_len (l.take i)
        rw [List.length_take] at hle
        have hs := mergeX_take l he
        generalize mergeX (l.take i) = out at h4 o4 hpos hle hs
        obtain ⟨m, hm⟩ : ∃ m, out.length = m + 1 := ⟨out.length - 1, by omega⟩
        obtain ⟨p, hp⟩ : ∃ p, out[m]? = some p := ⟨_, List.getElem?_eq_getElem (by omega)⟩
        have hp2 : out[m]'(by omega) = p := by have := hp; rw [List.getElem?_eq_getElem (by omega)] at this; exact Option.some.inj this
        have hwm : IntKind.i64.wrap (m : Int) = m := w64_in (by omega) (by omega)
        have hwi : IntKind.i64.wrap ((i : Int) + 1) = (i : Int) + 1 := w64_in (by omega) (by omega)
        have hb1 : m + 1 + 1 ≤ 140737488355328 := by omega
        have hb2 : (m + 1 + 1) * 32 ≤ 140737488355328 := by omega
        have hmp : (0 : Int) < (m : Int) + 1 := by omega
        have hmm : (m : Int) < (m : Int) + 1 := by omega
        cases hg : goesX p e
        · have hs' := mergeStep_no hm hp hg
          repeat' (first
 | (intro h; first | (exfalso; exact Bool.noConfusion h) | (simp only [decide_eq_true_eq, decide_eq_false_iff_not] at h) | skip)
 | (apply evOps_fin; (case hf => (simp only [finGo, app1]; rfl)); skip)
 | refine WP_seq ?_
 | refine WP_scope ?_
 | refine WP_block ?_
 | refine WP_ret ?_
 | refine WP_skip ?_
 | refine WP_exit ?_
 | (apply WP_region; (case hl => rfl); (case hc => (simp only [put_env', put_own', put_ctr', put_none', setOwn_env', setOwn_own', setOwn_ctr', setCtr_env', setCtr_own', setCtr_ctr', entry, entryEnv, entryOwn, inAV, scAV, inOB]; rfl)); (case hc' => (conv => lhs; simp only [List.size_toArray, List.length_cons, List.length_nil, Nat.zero_add, Nat.reduceAdd, Nat.add_assoc])); skip)
 | (apply WP_draw; (case hl => rfl); (case hds => (simp only [List.map_cons, List.map_nil]; rfl)); (case hc => (simp only [put_env', put_own', put_ctr', put_none', setOwn_env', setOwn_own', setOwn_ctr', setCtr_env', setCtr_own', setCtr_ctr', entry, entryEnv, entryOwn, inAV, scAV, inOB]; rfl)); (case hc' => (conv => lhs; simp only [List.size_toArray, List.length_cons, List.length_nil, Nat.zero_add, Nat.reduceAdd, Nat.add_assoc])); (case hD => rfl); (case hb => kernel_rfl); (case h1 => (simp only [List.take_succ_cons, List.take_zero]; rfl)); (case h2 => (simp only [List.drop_succ_cons, List.drop_zero]; rfl)); (case h3 => (simp only [List.take_succ_cons, List.take_zero]; rfl)); intro had; skip)
 | refine evOps_nil ?_
 | refine evQ_nil ?_
 | (apply evQ_one; (case had => assumption); (case hg => rfl); (case hd => (simp [dstB]; done)); (case h => (simp [evQuiet, evCallQ, known, njk, AV.isJunk, Op.operands, Call.operands, evEff, evStep, evPure, h8, h9, h10, h4, o4, hlt', he, hm, hp, hp2, Xt.enc, hwm, hmp, hmm, h24, sp24, decX, xt_eta, hg, hb1, hb2]; with_reducible rfl)); (case hs => (simp; done)); (case hR => (simp only [List.nil_append, List.cons_append]; rfl)); skip)
 | (apply evQ_yes; (case had => assumption); (case hg => rfl); (case hb => (simp [gval, evEff, dstB, h8, h9, h10, h4, o4, hlt', he, hm, hp, hp2, Xt.enc, hwm, hmp, hmm, h24, sp24, decX, xt_eta, hg, hb1, hb2]; done)); (case hd => (simp [dstB]; done)); (case h => (simp [evQuiet, evCallQ, known, njk, AV.isJunk, Op.operands, Call.operands, evEff, evStep, evPure, h8, h9, h10, h4, o4, hlt', he, hm, hp, hp2, Xt.enc, hwm, hmp, hmm, h24, sp24, decX, xt_eta, hg, hb1, hb2]; with_reducible rfl)); (case hs => (simp; done)); (case hR => (simp only [List.nil_append, List.cons_append]; rfl)); skip)
 | (apply evQ_no; (case had => assumption); (case hg => rfl); (case hb => (simp [gval, evEff, dstB, h8, h9, h10, h4, o4, hlt', he, hm, hp, hp2, Xt.enc, hwm, hmp, hmm, h24, sp24, decX, xt_eta, hg, hb1, hb2]; with_reducible rfl)); (case hne => (simp; done)); (case hd => (simp [dstB]; done)); (case hR => (simp only [List.nil_append, List.cons_append]; rfl)); skip)
 | (apply evQ_split; (case hg => rfl); (case hb => (simp only [List.getElem?_cons_succ, List.getElem?_cons_zero]; rfl)); (case hv => ((fail_if_success (with_reducible exact (rfl : (_ : QR) = (AV.d (.val (.bool true)) _, none)))); (fail_if_success (with_reducible exact (rfl : (_ : QR) = (AV.d (.val (.bool false)) _, none)))); rfl)); (case hT => (simp only [List.set_cons_succ, List.set_cons_zero]; rfl)); (case hF => (simp only [List.set_cons_succ, List.set_cons_zero]; rfl)); skip)
 | (apply evOps_one; (case hg => rfl); (case h => (simp [evStep, evPure, h8, h9, h10, h4, o4, hlt', he, hm, hp, hp2, Xt.enc, hwm, hmp, hmm, h24, sp24, decX, xt_eta, hg, hb1, hb2]; with_reducible rfl)); skip)
 | (apply evOps_yes; (case hg => rfl); (case hb => (simp [gval, dstB, h8, h9, h10, h4, o4, hlt', he, hm, hp, hp2, Xt.enc, hwm, hmp, hmm, h24, sp24, decX, xt_eta, hg, hb1, hb2]; done)); (case h => (simp [evStep, evPure, h8, h9, h10, h4, o4, hlt', he, hm, hp, hp2, Xt.enc, hwm, hmp, hmm, h24, sp24, decX, xt_eta, hg, hb1, hb2]; with_reducible rfl)); skip)
 | (apply evOps_no; (case hg => rfl); (case hb => (simp [gval, dstB, h8, h9, h10, h4, o4, hlt', he, hm, hp, hp2, Xt.enc, hwm, hmp, hmm, h24, sp24, decX, xt_eta, hg, hb1, hb2]; with_reducible rfl)); (case hne => (simp; done)); (case hd => (simp [dstB]; done)); skip)
 | (apply evOps_big; (case hg => rfl); (case hd => (simp [dstB]; done)); (case hb => (simp [evBig, evStep, evPure, h8, h9, h10, h4, o4, hlt', he, hm, hp, hp2, Xt.enc, hwm, hmp, hmm, h24, sp24, decX, xt_eta, hg, hb1, hb2]; with_reducible rfl)); skip)
 | (apply evOps_bigYes; (case hg => rfl); (case hgv => (simp [gval, dstB, h8, h9, h10, h4, o4, hlt', he, hm, hp, hp2, Xt.enc, hwm, hmp, hmm, h24, sp24, decX, xt_eta, hg, hb1, hb2]; done)); (case hd => (simp [dstB]; done)); (case hb => (simp [evBig, evStep, evPure, h8, h9, h10, h4, o4, hlt', he, hm, hp, hp2, Xt.enc, hwm, hmp, hmm, h24, sp24, decX, xt_eta, hg, hb1, hb2]; with_reducible rfl)); skip)
 | (apply evOps_split; (case _hg => rfl); (case _ht => rfl); (case hb => (simp [dstB]; with_reducible rfl)); (case hv => ((fail_if_success (with_reducible exact (rfl : (_ : AV) = AV.d (.val (.bool true)) _))); (fail_if_success (with_reducible exact (rfl : (_ : AV) = AV.d (.val (.bool false)) _))); rfl)); skip)
 | (apply WP_cond; (case hx => (simp [St.eval, dstB, h8, h9, h10, h4, o4, hlt', he, hm, hp, hp2, Xt.enc, hwm, hmp, hmm, h24, sp24, decX, xt_eta, hg, hb1, hb2]; with_reducible rfl)); (case hv => rfl); skip))
          refine ⟨l.length - (i + 1), gc [4, 8, 9, 10] [41] _, by omega, gc_forget _ _ _, i + 1, by omega, rfl, ?_, ?_, ?_, .inr ⟨by omega, ?_⟩⟩
          case refine_4 =>
            rw [hs, hs']
            exact ⟨_, _, by simp [gc, restrictEnv, dstB, hm]; rfl, by simp [gc, restrictOwn, dstB, Xt.enc]; rfl⟩
          all_goals simp [gc, restrictEnv, restrictOwn, dstB, h8, h9, h10, hwi]
        · have hs' := mergeStep_yes hm hp hg
          repeat' (first
 | (intro h; first | (exfalso; exact Bool.noConfusion h) | (simp only [decide_eq_true_eq, decide_eq_false_iff_not] at h) | skip)
 | (apply evOps_fin; (case hf => (simp only [finGo, app1]; rfl)); skip)
 | refine WP_seq ?_
 | refine WP_scope ?_
 | refine WP_block ?_
 | refine WP_ret ?_
 | refine WP_skip ?_
 | refine WP_exit ?_
 | (apply WP_region; (case hl => rfl); (case hc => (simp only [put_env', put_own', put_ctr', put_none', setOwn_env', setOwn_own', setOwn_ctr', setCtr_env', setCtr_own', setCtr_ctr', entry, entryEnv, entryOwn, inAV, scAV, inOB]; rfl)); (case hc' => (conv => lhs; simp only [List.size_toArray, List.length_cons, List.length_nil, Nat.zero_add, Nat.reduceAdd, Nat.add_assoc])); skip)
 | (apply WP_draw; (case hl => rfl); (case hds => (simp only [List.map_cons, List.map_nil]; rfl)); (case hc => (simp only [put_env', put_own', put_ctr', put_none', setOwn_env', setOwn_own', setOwn_ctr', setCtr_env', setCtr_own', setCtr_ctr', entry, entryEnv, entryOwn, inAV, scAV, inOB]; rfl)); (case hc' => (conv => lhs; simp only [List.size_toArray, List.length_cons, List.length_nil, Nat.zero_add, Nat.reduceAdd, Nat.add_assoc])); (case hD => rfl); (case hb => kernel_rfl); (case h1 => (simp only [List.take_succ_cons, List.take_zero]; rfl)); (case h2 => (simp only [List.drop_succ_cons, List.drop_zero]; rfl)); (case h3 => (simp only [List.take_succ_cons, List.take_zero]; rfl)); intro had; skip)
 | refine evOps_nil ?_
 | refine evQ_nil ?_
 | (apply evQ_one; (case had => assumption); (case hg => rfl); (case hd => (simp [dstB]; done)); (case h => (simp [evQuiet, evCallQ, known, njk, AV.isJunk, Op.operands, Call.operands, evEff, evStep, evPure, h8, h9, h10, h4, o4, hlt', he, hm, hp, hp2, Xt.enc, hwm, hmp, hmm, h24, sp24, decX, xt_eta, hg, hb1, hb2]; with_reducible rfl)); (case hs => (simp; done)); (case hR => (simp only [List.nil_append, List.cons_append]; rfl)); skip)
 | (apply evQ_yes; (case had => assumption); (case hg => rfl); (case hb => (simp [gval, evEff, dstB, h8, h9, h10, h4, o4, hlt', he, hm, hp, hp2, Xt.enc, hwm, hmp, hmm, h24, sp24, decX, xt_eta, hg, hb1, hb2]; done)); (case hd => (simp [dstB]; done)); (case h => (simp [evQuiet, evCallQ, known, njk, AV.isJunk, Op.operands, Call.operands, evEff, evStep, evPure, h8, h9, h10, h4, o4, hlt', he, hm, hp, hp2, Xt.enc, hwm, hmp, hmm, h24, sp24, decX, xt_eta, hg, hb1, hb2]; with_reducible rfl)); (case hs => (simp; done)); (case hR => (simp only [List.nil_append, List.cons_append]; rfl)); skip)
 | (apply evQ_no; (case had => assumption); (case hg => rfl); (case hb => (simp [gval, evEff, dstB, h8, h9, h10, h4, o4, hlt', he, hm, hp, hp2, Xt.enc, hwm, hmp, hmm, h24, sp24, decX, xt_eta, hg, hb1, hb2]; with_reducible rfl)); (case hne => (simp; done)); (case hd => (simp [dstB]; done)); (case hR => (simp only [List.nil_append, List.cons_append]; rfl)); skip)
 | (apply evQ_split; (case hg => rfl); (case hb => (simp only [List.getElem?_cons_succ, List.getElem?_cons_zero]; rfl)); (case hv => ((fail_if_success (with_reducible exact (rfl : (_ : QR) = (AV.d (.val (.bool true)) _, none)))); (fail_if_success (with_reducible exact (rfl : (_ : QR) = (AV.d (.val (.bool false)) _, none)))); rfl)); (case hT => (simp only [List.set_cons_succ, List.set_cons_zero]; rfl)); (case hF => (simp only [List.set_cons_succ, List.set_cons_zero]; rfl)); skip)
 | (apply evOps_one; (case hg => rfl); (case h => (simp [evStep, evPure, h8, h9, h10, h4, o4, hlt', he, hm, hp, hp2, Xt.enc, hwm, hmp, hmm, h24, sp24, decX, xt_eta, hg, hb1, hb2]; with_reducible rfl)); skip)
 | (apply evOps_yes; (case hg => rfl); (case hb => (simp [gval, dstB, h8, h9, h10, h4, o4, hlt', he, hm, hp, hp2, Xt.enc, hwm, hmp, hmm, h24, sp24, decX, xt_eta, hg, hb1, hb2]; done)); (case h => (simp [evStep, evPure, h8, h9, h10, h4, o4, hlt', he, hm, hp, hp2, Xt.enc, hwm, hmp, hmm, h24, sp24, decX, xt_eta, hg, hb1, hb2]; with_reducible rfl)); skip)
 | (apply evOps_no; (case hg => rfl); (case hb => (simp [gval, dstB, h8, h9, h10, h4, o4, hlt', he, hm, hp, hp2, Xt.enc, hwm, hmp, hmm, h24, sp24, decX, xt_eta, hg, hb1, hb2]; with_reducible rfl)); (case hne => (simp; done)); (case hd => (simp [dstB]; done)); skip)
 | (apply evOps_big; (case hg => rfl); (case hd => (simp [dstB]; done)); (case hb => (simp [evBig, evStep, evPure, h8, h9, h10, h4, o4, hlt', he, hm, hp, hp2, Xt.enc, hwm, hmp, hmm, h24, sp24, decX, xt_eta, hg, hb1, hb2]; with_reducible rfl)); skip)
 | (apply evOps_bigYes; (case hg => rfl); (case hgv => (simp [gval, dstB, h8, h9, h10, h4, o4, hlt', he, hm, hp, hp2, Xt.enc, hwm, hmp, hmm, h24, sp24, decX, xt_eta, hg, hb1, hb2]; done)); (case hd => (simp [dstB]; done)); (case hb => (simp [evBig, evStep, evPure, h8, h9, h10, h4, o4, hlt', he, hm, hp, hp2, Xt.enc, hwm, hmp, hmm, h24, sp24, decX, xt_eta, hg, hb1, hb2]; with_reducible rfl)); skip)
 | (apply evOps_split; (case _hg => rfl); (case _ht => rfl); (case hb => (simp [dstB]; with_reducible rfl)); (case hv => ((fail_if_success (with_reducible exact (rfl : (_ : AV) = AV.d (.val (.bool true)) _))); (fail_if_success (with_reducible exact (rfl : (_ : AV) = AV.d (.val (.bool false)) _))); rfl)); skip)
 | (apply WP_cond; (case hx => (simp [St.eval, dstB, h8, h9, h10, h4, o4, hlt', he, hm, hp, hp2, Xt.enc, hwm, hmp, hmm, h24, sp24, decX, xt_eta, hg, hb1, hb2]; with_reducible rfl)); (case hv => rfl); skip))
          refine ⟨l.length - (i + 1), gc [4, 8, 9, 10] [41] _, by omega, gc_forget _ _ _, i + 1, by omega, rfl, ?_, ?_, ?_, .inr ⟨by omega, ?_⟩⟩
          case refine_4 =>
            rw [hs, hs']
            refine ⟨g, _, by simp [gc, restrictEnv, dstB, hm, h4], by simp [gc, restrictOwn, dstB, Xt.enc, List.map_set]; rfl⟩
          all_goals simp [gc, restrictEnv, restrictOwn, dstB, h8, h9, h10, hwi]
    · have hie : i = l.length := by omega
      subst hie
      rw [List.take_length] at h4
      have hlm := mergeX_len l
      rcases h4 with ⟨h0, h4⟩ | ⟨hi0, g, fr, h4, o4⟩
      · have hl0 : l = [] := List.eq_nil_of_length_eq_zero h0
        subst hl0
        repeat' (first
 | (intro h; first | (exfalso; exact Bool.noConfusion h) | (simp only [decide_eq_true_eq, decide_eq_false_iff_not] at h) | skip)
 | (apply evOps_fin; (case hf => (simp only [finGo, app1]; rfl)); skip)
 | refine WP_seq ?_
 | refine WP_scope ?_
 | refine WP_block ?_
 | refine WP_ret ?_
 | refine WP_skip ?_
 | refine WP_exit ?_
 | (apply WP_region; (case hl => rfl); (case hc => (simp only [put_env', put_own', put_ctr', put_none', setOwn_env', setOwn_own', setOwn_ctr', setCtr_env', setCtr_own', setCtr_ctr', entry, entryEnv, entryOwn, inAV, scAV, inOB]; rfl)); (case hc' => (conv => lhs; simp only [List.size_toArray, List.length_cons, List.length_nil, Nat.zero_add, Nat.reduceAdd, Nat.add_assoc])); skip)
 | (apply WP_draw; (case hl => rfl); (case hds => (simp only [List.map_cons, List.map_nil]; rfl)); (case hc => (simp only [put_env', put_own', put_ctr', put_none', setOwn_env', setOwn_own', setOwn_ctr', setCtr_env', setCtr_own', setCtr_ctr', entry, entryEnv, entryOwn, inAV, scAV, inOB]; rfl)); (case hc' => (conv => lhs; simp only [List.size_toArray, List.length_cons, List.length_nil, Nat.zero_add, Nat.reduceAdd, Nat.add_assoc])); (case hD => rfl); (case hb => kernel_rfl); (case h1 => (simp only [List.take_succ_cons, List.take_zero]; rfl)); (case h2 => (simp only [List.drop_succ_cons, List.drop_zero]; rfl)); (case h3 => (simp only [List.take_succ_cons, List.take_zero]; rfl)); intro had; skip)
 | refine evOps_nil ?_
 | refine evQ_nil ?_
 | (apply evQ_one; (case had => assumption); (case hg => rfl); (case hd => (simp [dstB]; done)); (case h => (simp [evQuiet, evCallQ, known, njk, AV.isJunk, Op.operands, Call.operands, evEff, evStep, evPure, h8, h9, h10, h4]; with_reducible rfl)); (case hs => (simp; done)); (case hR => (simp only [List.nil_append, List.cons_append]; rfl)); skip)
 | (apply evQ_yes; (case had => assumption); (case hg => rfl); (case hb => (simp [gval, evEff, dstB, h8, h9, h10, h4]; done)); (case hd => (simp [dstB]; done)); (case h => (simp [evQuiet, evCallQ, known, njk, AV.isJunk, Op.operands, Call.operands, evEff, evStep, evPure, h8, h9, h10, h4]; with_reducible rfl)); (case hs => (simp; done)); (case hR => (simp only [List.nil_append, List.cons_append]; rfl)); skip)
 | (apply evQ_no; (case had => assumption); (case hg => rfl); (case hb => (simp [gval, evEff, dstB, h8, h9, h10, h4]; with_reducible rfl)); (case hne => (simp; done)); (case hd => (simp [dstB]; done)); (case hR => (simp only [List.nil_append, List.cons_append]; rfl)); skip)
 | (apply evQ_split; (case hg => rfl); (case hb => (simp only [List.getElem?_cons_succ, List.getElem?_cons_zero]; rfl)); (case hv => ((fail_if_success (with_reducible exact (rfl : (_ : QR) = (AV.d (.val (.bool true)) _, none)))); (fail_if_success (with_reducible exact (rfl : (_ : QR) = (AV.d (.val (.bool false)) _, none)))); rfl)); (case hT => (simp only [List.set_cons_succ, List.set_cons_zero]; rfl)); (case hF => (simp only [List.set_cons_succ, List.set_cons_zero]; rfl)); skip)
 | (apply evOps_one; (case hg => rfl); (case h => (simp [evStep, evPure, h8, h9, h10, h4]; with_reducible rfl)); skip)
 | (apply evOps_yes; (case hg => rfl); (case hb => (simp [gval, dstB, h8, h9, h10, h4]; done)); (case h => (simp [evStep, evPure, h8, h9, h10, h4]; with_reducible rfl)); skip)
 | (apply evOps_no; (case hg => rfl); (case hb => (simp [gval, dstB, h8, h9, h10, h4]; with_reducible rfl)); (case hne => (simp; done)); (case hd => (simp [dstB]; done)); skip)
 | (apply evOps_big; (case hg => rfl); (case hd => (simp [dstB]; done)); (case hb => (simp [evBig, evStep, evPure, h8, h9, h10, h4]; with_reducible rfl)); skip)
 | (apply evOps_bigYes; (case hg => rfl); (case hgv => (simp [gval, dstB, h8, h9, h10, h4]; done)); (case hd => (simp [dstB]; done)); (case hb => (simp [evBig, evStep, evPure, h8, h9, h10, h4]; with_reducible rfl)); skip)
 | (apply evOps_split; (case _hg => rfl); (case _ht => rfl); (case hb => (simp [dstB]; with_reducible rfl)); (case hv => ((fail_if_success (with_reducible exact (rfl : (_ : AV) = AV.d (.val (.bool true)) _))); (fail_if_success (with_reducible exact (rfl : (_ : AV) = AV.d (.val (.bool false)) _))); rfl)); skip)
 | (apply WP_cond; (case hx => (simp [St.eval, dstB, h8, h9, h10, h4]; with_reducible rfl)); (case hv => rfl); skip))
        all_goals simp [Fin1, resVals, ownOf, FinList1, FinOne1, FinWr1, nodupB, Try.results29, out29, mergeX, evStep, evPure]
      · have hne : l ≠ [] := by intro e; subst e; simp at hi0
        by_cases h60 : (mergeX l).length > 60
        · have h60' : (60 : Int) < ((mergeX l).length : Int) := by omega
          repeat' (first
 | (intro h; first | (exfalso; exact Bool.noConfusion h) | (simp only [decide_eq_true_eq, decide_eq_false_iff_not] at h) | skip)
 | (apply evOps_fin; (case hf => (simp only [finGo, app1]; rfl)); skip)
 | refine WP_seq ?_
 | refine WP_scope ?_
 | refine WP_block ?_
 | refine WP_ret ?_
 | refine WP_skip ?_
 | refine WP_exit ?_
 | (apply WP_region; (case hl => rfl); (case hc => (simp only [put_env', put_own', put_ctr', put_none', setOwn_env', setOwn_own', setOwn_ctr', setCtr_env', setCtr_own', setCtr_ctr', entry, entryEnv, entryOwn, inAV, scAV, inOB]; rfl)); (case hc' => (conv => lhs; simp only [List.size_toArray, List.length_cons, List.length_nil, Nat.zero_add, Nat.reduceAdd, Nat.add_assoc])); skip)
 | (apply WP_draw; (case hl => rfl); (case hds => (simp only [List.map_cons, List.map_nil]; rfl)); (case hc => (simp only [put_env', put_own', put_ctr', put_none', setOwn_env', setOwn_own', setOwn_ctr', setCtr_env', setCtr_own', setCtr_ctr', entry, entryEnv, entryOwn, inAV, scAV, inOB]; rfl)); (case hc' => (conv => lhs; simp only [List.size_toArray, List.length_cons, List.length_nil, Nat.zero_add, Nat.reduceAdd, Nat.add_assoc])); (case hD => rfl); (case hb => kernel_rfl); (case h1 => (simp only [List.take_succ_cons, List.take_zero]; rfl)); (case h2 => (simp only [List.drop_succ_cons, List.drop_zero]; rfl)); (case h3 => (simp only [List.take_succ_cons, List.take_zero]; rfl)); intro had; skip)
 | refine evOps_nil ?_
 | refine evQ_nil ?_
 | (apply evQ_one; (case had => assumption); (case hg => rfl); (case hd => (simp [dstB]; done)); (case h => (simp [evQuiet, evCallQ, known, njk, AV.isJunk, Op.operands, Call.operands, evEff, evStep, evPure, h8, h9, h10, h4, o4, h60']; with_reducible rfl)); (case hs => (simp; done)); (case hR => (simp only [List.nil_append, List.cons_append]; rfl)); skip)
 | (apply evQ_yes; (case had => assumption); (case hg => rfl); (case hb => (simp [gval, evEff, dstB, h8, h9, h10, h4, o4, h60']; done)); (case hd => (simp [dstB]; done)); (case h => (simp [evQuiet, evCallQ, known, njk, AV.isJunk, Op.operands, Call.operands, evEff, evStep, evPure, h8, h9, h10, h4, o4, h60']; with_reducible rfl)); (case hs => (simp; done)); (case hR => (simp only [List.nil_append, List.cons_append]; rfl)); skip)
 | (apply evQ_no; (case had => assumption); (case hg => rfl); (case hb => (simp [gval, evEff, dstB, h8, h9, h10, h4, o4, h60']; with_reducible rfl)); (case hne => (simp; done)); (case hd => (simp [dstB]; done)); (case hR => (simp only [List.nil_append, List.cons_append]; rfl)); skip)
 | (apply evQ_split; (case hg => rfl); (case hb => (simp only [List.getElem?_cons_succ, List.getElem?_cons_zero]; rfl)); (case hv => ((fail_if_success (with_reducible exact (rfl : (_ : QR) = (AV.d (.val (.bool true)) _, none)))); (fail_if_success (with_reducible exact (rfl : (_ : QR) = (AV.d (.val (.bool false)) _, none)))); rfl)); (case hT => (simp only [List.set_cons_succ, List.set_cons_zero]; rfl)); (case hF => (simp only [List.set_cons_succ, List.set_cons_zero]; rfl)); skip)
 | (apply evOps_one; (case hg => rfl); (case h => (simp [evStep, evPure, h8, h9, h10, h4, o4, h60']; with_reducible rfl)); skip)
 | (apply evOps_yes; (case hg => rfl); (case hb => (simp [gval, dstB, h8, h9, h10, h4, o4, h60']; done)); (case h => (simp [evStep, evPure, h8, h9, h10, h4, o4, h60']; with_reducible rfl)); skip)
 | (apply evOps_no; (case hg => rfl); (case hb => (simp [gval, dstB, h8, h9, h10, h4, o4, h60']; with_reducible rfl)); (case hne => (simp; done)); (case hd => (simp [dstB]; done)); skip)
 | (apply evOps_big; (case hg => rfl); (case hd => (simp [dstB]; done)); (case hb => (simp [evBig, evStep, evPure, h8, h9, h10, h4, o4, h60']; with_reducible rfl)); skip)
 | (apply evOps_bigYes; (case hg => rfl); (case hgv => (simp [gval, dstB, h8, h9, h10, h4, o4, h60']; done)); (case hd => (simp [dstB]; done)); (case hb => (simp [evBig, evStep, evPure, h8, h9, h10, h4, o4, h60']; with_reducible rfl)); skip)
 | (apply evOps_split; (case _hg => rfl); (case _ht => rfl); (case hb => (simp [dstB]; with_reducible rfl)); (case hv => ((fail_if_success (with_reducible exact (rfl : (_ : AV) = AV.d (.val (.bool true)) _))); (fail_if_success (with_reducible exact (rfl : (_ : AV) = AV.d (.val (.bool false)) _))); rfl)); skip)
 | (apply WP_cond; (case hx => (simp [St.eval, dstB, h8, h9, h10, h4, o4, h60']; with_reducible rfl)); (case hv => rfl); skip))
          all_goals simp [Fin1, resVals, ownOf, FinList1, FinOne1, FinWr1, nodupB, Try.results29, out29, h60, o4, evStep, evPure]
        · have h60' : ¬ (60 : Int) < ((mergeX l).length : Int) := by omega
          repeat' (first
 | (intro h; first | (exfalso; exact Bool.noConfusion h) | (simp only [decide_eq_true_eq, decide_eq_false_iff_not] at h) | skip)
 | (apply evOps_fin; (case hf => (simp only [finGo, app1]; rfl)); skip)
 | refine WP_seq ?_
 | refine WP_scope ?_
 | refine WP_block ?_
 | refine WP_ret ?_
 | refine WP_skip ?_
 | refine WP_exit ?_
 | (apply WP_region; (case hl => rfl); (case hc => (simp only [put_env', put_own', put_ctr', put_none', setOwn_env', setOwn_own', setOwn_ctr', setCtr_env', setCtr_own', setCtr_ctr', entry, entryEnv, entryOwn, inAV, scAV, inOB]; rfl)); (case hc' => (conv => lhs; simp only [List.size_toArray, List.length_cons, List.length_nil, Nat.zero_add, Nat.reduceAdd, Nat.add_assoc])); skip)
 | (apply WP_draw; (case hl => rfl); (case hds => (simp only [List.map_cons, List.map_nil]; rfl)); (case hc => (simp only [put_env', put_own', put_ctr', put_none', setOwn_env', setOwn_own', setOwn_ctr', setCtr_env', setCtr_own', setCtr_ctr', entry, entryEnv, entryOwn, inAV, scAV, inOB]; rfl)); (case hc' => (conv => lhs; simp only [List.size_toArray, List.length_cons, List.length_nil, Nat.zero_add, Nat.reduceAdd, Nat.add_assoc])); (case hD => rfl); (case hb => kernel_rfl); (case h1 => (simp only [List.take_succ_cons, List.take_zero]; rfl)); (case h2 => (simp only [List.drop_succ_cons, List.drop_zero]; rfl)); (case h3 => (simp only [List.take_succ_cons, List.take_zero]; rfl)); intro had; skip)
 | refine evOps_nil ?_
 | refine evQ_nil ?_
 | (apply evQ_one; (case had => assumption); (case hg => rfl); (case hd => (simp [dstB]; done)); (case h => (simp [evQuiet, evCallQ, known, njk, AV.isJunk, Op.operands, Call.operands, evEff, evStep, evPure, h8, h9, h10, h4, o4, h60']; with_reducible rfl)); (case hs => (simp; done)); (case hR => (simp only [List.nil_append, List.cons_append]; rfl)); skip)
 | (apply evQ_yes; (case had => assumption); (case hg => rfl); (case hb => (simp [gval, evEff, dstB, h8, h9, h10, h4, o4, h60']; done)); (case hd => (simp [dstB]; done)); (case h => (simp [evQuiet, evCallQ, known, njk, AV.isJunk, Op.operands, Call.operands, evEff, evStep, evPure, h8, h9, h10, h4, o4, h60']; with_reducible rfl)); (case hs => (simp; done)); (case hR => (simp only [List.nil_append, List.cons_append]; rfl)); skip)
 | (apply evQ_no; (case had => assumption); (case hg => rfl); (case hb => (simp [gval, evEff, dstB, h8, h9, h10, h4, o4, h60']; with_reducible rfl)); (case hne => (simp; done)); (case hd => (simp [dstB]; done)); (case hR => (simp only [List.nil_append, List.cons_append]; rfl)); skip)
 | (apply evQ_split; (case hg => rfl); (case hb => (simp only [List.getElem?_cons_succ, List.getElem?_cons_zero]; rfl)); (case hv => ((fail_if_success (with_reducible exact (rfl : (_ : QR) = (AV.d (.val (.bool true)) _, none)))); (fail_if_success (with_reducible exact (rfl : (_ : QR) = (AV.d (.val (.bool false)) _, none)))); rfl)); (case hT => (simp only [List.set_cons_succ, List.set_cons_zero]; rfl)); (case hF => (simp only [List.set_cons_succ, List.set_cons_zero]; rfl)); skip)
 | (apply evOps_one; (case hg => rfl); (case h => (simp [evStep, evPure, h8, h9, h10, h4, o4, h60']; with_reducible rfl)); skip)
 | (apply evOps_yes; (case hg => rfl); (case hb => (simp [gval, dstB, h8, h9, h10, h4, o4, h60']; done)); (case h => (simp [evStep, evPure, h8, h9, h10, h4, o4, h60']; with_reducible rfl)); skip)
 | (apply evOps_no; (case hg => rfl); (case hb => (simp [gval, dstB, h8, h9, h10, h4, o4, h60']; with_reducible rfl)); (case hne => (simp; done)); (case hd => (simp [dstB]; done)); skip)
 | (apply evOps_big; (case hg => rfl); (case hd => (simp [dstB]; done)); (case hb => (simp [evBig, evStep, evPure, h8, h9, h10, h4, o4, h60']; with_reducible rfl)); skip)
 | (apply evOps_bigYes; (case hg => rfl); (case hgv => (simp [gval, dstB, h8, h9, h10, h4, o4, h60']; done)); (case hd => (simp [dstB]; done)); (case hb => (simp [evBig, evStep, evPure, h8, h9, h10, h4, o4, h60']; with_reducible rfl)); skip)
 | (apply evOps_split; (case _hg => rfl); (case _ht => rfl); (case hb => (simp [dstB]; with_reducible rfl)); (case hv => ((fail_if_success (with_reducible exact (rfl : (_ : AV) = AV.d (.val (.bool true)) _))); (fail_if_success (with_reducible exact (rfl : (_ : AV) = AV.d (.val (.bool false)) _))); rfl)); skip)
 | (apply WP_cond; (case hx => (simp [St.eval, dstB, h8, h9, h10, h4, o4, h60']; with_reducible rfl)); (case hv => rfl); skip))
          all_goals simp [Fin1, resVals, ownOf, FinList1, FinOne1, FinWr1, nodupB, Try.results29, out29, h60, hne, o4, valRow_enc, evStep, evPure]
end Go.Dv
