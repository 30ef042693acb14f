/-
  DERIVED, MY OWN. A part of the proof of ExtentBlocks: see the last text (Row).
-/
import Derived.Test.YteldlckmleblkaaWkC
import Derived.Test.YteldlckmleblkaaWkA
import Derived.Test.YteldlckmleblkaaXt
import Derived.Test.YteldlckmleblkaaDvC
set_option linter.all false
/-
  DERIVED, MY OWN. THE WALK OF Cut.
-/




set_option autoImplicit false
set_option maxRecDepth 20000
set_option linter.unusedSimpArgs false
set_option linter.unusedVariables false
namespace Go.Dv
open Go Go.RowKit Go.Proofs

def D10 : Dep := fun
  | 14 => (5, [[], [], [0], [0, 1, 2], [0, 1, 2, 3]])
  | _ => (0, [])
noncomputable def b31 : Code := Try.f31.body.getD .skip
theorem hb31 : Try.f31.body = some b31 := rfl
noncomputable def E10 (T : Tbl) : Big := ⟨fun f => if f = 31 then some (trBody Try.prog T Big.none D0 Try.f31 b31 1000) else none, none, fun f => if f = 55 then some (itBody Try.prog T Big.none D55 Try.f55 b55 2000) else none⟩
theorem E10_ok {T : Tbl} (hT : TblOk' Try.prog T) : GBig Try.prog (E10 T) := by
  intro A0 M w0
  constructor
  · intro f tr h
    simp only [E10] at h
    split at h
    · rename_i e
      subst e
      obtain rfl := Option.some.inj h
      exact .inl ⟨trBody_ok gbig_none hT mix10 Try.func31 hb31 1000, fun args w => callEnter Try.func31 (by kernel_rfl) hb31 args w⟩
    · cases h
  · intro tr h; simp [E10] at h
  · intro f itr h
    simp only [E10] at h
    split at h
    · rename_i e
      subst e
      obtain rfl := Option.some.inj h
      exact ⟨itBody_ok gbig_none hT mix10 Try.func55 hb55 2000, fun args w => callEnter Try.func55 (by kernel_rfl) hb55 args w⟩
    · cases h
theorem E10_31 (T : Tbl) : (E10 T).fn 31 = some (trBody Try.prog T Big.none D0 Try.f31 b31 1000) := rfl

/-- What stands while the pieces come. -/
def Inv10 (n : Bool) (l : List Xt) (p q : Int) (g3 g4 g5 g9 g10 c : Nat) (m3 m4 m5 m9 m10 : Bool) (r : Loop) (d : List (Xt × Bool)) (σ : St) : Prop :=
  σ.own 999 = lpOB c r ∧ Caps n l p q g3 g4 g5 m3 m4 m5 σ ∧
  (∃ v, σ.own 9 = some (.var 22 g9 m9 [v]) ∧ ((leftX d = [] ∧ v = .d (.sl true []) true) ∨ (leftX d ≠ [] ∧ ∃ g fr, v = .rs 38 g 0 (leftX d).length ∧ σ.own 38 = some (.row 24 4 g true false fr ((leftX d).map Xt.enc))))) ∧
  (∃ v, σ.own 10 = some (.var 31 g10 m10 [v]) ∧ ((spanX d = [] ∧ v = .d (.sl true []) true) ∨ (spanX d ≠ [] ∧ ∃ g, v = .rs 34 g 0 (spanX d).length ∧ σ.own 34 = some (.row 52 2 g true false true (spanX d)))))

set_option maxHeartbeats 4000000 in
theorem ok10 {T : Tbl} (hT : TblOk' Try.prog T) (h23 : T 23 = some sp23) (h29 : T 29 = some sp29) (h30 : T 30 = some sp30) (h31 : T 31 = none) (h56 : T 56 = some sp56) : FOk Try.prog 10 sp10 := by
  intro ins out h
  obtain ⟨n, l, p, q, rfl, rfl⟩ := sp10_inv h
  clear h
  refine at_of_bodyM (E := E10 T) (D := D10) (E10_ok hT) hT mix10 Try.func10 rfl (by simp [Try.ntmps10]) (by kernel_rfl) (fun ty => ?_)
  cases hr : rangedX l p q
  · repeat' (first
 | (intro h; first | (exfalso; exact Bool.noConfusion h) | (simp only [decide_eq_true_eq, decide_eq_false_iff_not] at h) | skip)
 | (apply evOps_fin; (case hf => (simp only [finGo, app1]; rfl)); skip)
 | refine WP_seq ?_
 | refine WP_scope ?_
 | refine WP_block ?_
 | refine WP_ret ?_
 | refine WP_skip ?_
 | refine WP_exit ?_
 | (apply WP_region; (case hl => rfl); (case hc => (simp only [put_env', put_own', put_ctr', put_none', setOwn_env', setOwn_own', setOwn_ctr', setCtr_env', setCtr_own', setCtr_ctr', entry, entryEnv, entryOwn, inAV, scAV, inOB]; rfl)); (case hc' => (conv => lhs; simp only [List.size_toArray, List.length_cons, List.length_nil, Nat.zero_add, Nat.reduceAdd, Nat.add_assoc])); skip)
 | (apply WP_draw; (case hl => rfl); (case hds => (simp only [List.map_cons, List.map_nil]; rfl)); (case hc => (simp only [put_env', put_own', put_ctr', put_none', setOwn_env', setOwn_own', setOwn_ctr', setCtr_env', setCtr_own', setCtr_ctr', entry, entryEnv, entryOwn, inAV, scAV, inOB]; rfl)); (case hc' => (conv => lhs; simp only [List.size_toArray, List.length_cons, List.length_nil, Nat.zero_add, Nat.reduceAdd, Nat.add_assoc])); (case hD => rfl); (case hb => kernel_rfl); (case h1 => (simp only [List.take_succ_cons, List.take_zero]; rfl)); (case h2 => (simp only [List.drop_succ_cons, List.drop_zero]; rfl)); (case h3 => (simp only [List.take_succ_cons, List.take_zero]; rfl)); intro had; skip)
 | refine evOps_nil ?_
 | refine evQ_nil ?_
 | (apply evQ_one; (case had => assumption); (case hg => rfl); (case hd => (simp [dstB]; done)); (case h => (simp [evQuiet, evCallQ, known, njk, AV.isJunk, Op.operands, Call.operands, evEff, evStep, evPure, h30, sp30, decL_enc, hr, Xt.enc]; with_reducible rfl)); (case hs => (simp; done)); (case hR => (simp only [List.nil_append, List.cons_append]; rfl)); skip)
 | (apply evQ_yes; (case had => assumption); (case hg => rfl); (case hb => (simp [gval, evEff, dstB, h30, sp30, decL_enc, hr, Xt.enc]; done)); (case hd => (simp [dstB]; done)); (case h => (simp [evQuiet, evCallQ, known, njk, AV.isJunk, Op.operands, Call.operands, evEff, evStep, evPure, h30, sp30, decL_enc, hr, Xt.enc]; with_reducible rfl)); (case hs => (simp; done)); (case hR => (simp only [List.nil_append, List.cons_append]; rfl)); skip)
 | (apply evQ_no; (case had => assumption); (case hg => rfl); (case hb => (simp [gval, evEff, dstB, h30, sp30, decL_enc, hr, Xt.enc]; with_reducible rfl)); (case hne => (simp; done)); (case hd => (simp [dstB]; done)); (case hR => (simp only [List.nil_append, List.cons_append]; rfl)); skip)
 | (apply evQ_split; (case hg => rfl); (case hb => (simp only [List.getElem?_cons_succ, List.getElem?_cons_zero]; rfl)); (case hv => ((fail_if_success (with_reducible exact (rfl : (_ : QR) = (AV.d (.val (.bool true)) _, none)))); (fail_if_success (with_reducible exact (rfl : (_ : QR) = (AV.d (.val (.bool false)) _, none)))); rfl)); (case hT => (simp only [List.set_cons_succ, List.set_cons_zero]; rfl)); (case hF => (simp only [List.set_cons_succ, List.set_cons_zero]; rfl)); skip)
 | (apply evOps_one; (case hg => rfl); (case h => (simp [evStep, evPure, h30, sp30, decL_enc, hr, Xt.enc]; with_reducible rfl)); skip)
 | (apply evOps_yes; (case hg => rfl); (case hb => (simp [gval, dstB, h30, sp30, decL_enc, hr, Xt.enc]; done)); (case h => (simp [evStep, evPure, h30, sp30, decL_enc, hr, Xt.enc]; with_reducible rfl)); skip)
 | (apply evOps_no; (case hg => rfl); (case hb => (simp [gval, dstB, h30, sp30, decL_enc, hr, Xt.enc]; with_reducible rfl)); (case hne => (simp; done)); (case hd => (simp [dstB]; done)); skip)
 | (apply evOps_big; (case hg => rfl); (case hd => (simp [dstB]; done)); (case hb => (simp [evBig, evStep, evPure, h30, sp30, decL_enc, hr, Xt.enc]; with_reducible rfl)); skip)
 | (apply evOps_bigYes; (case hg => rfl); (case hgv => (simp [gval, dstB, h30, sp30, decL_enc, hr, Xt.enc]; done)); (case hd => (simp [dstB]; done)); (case hb => (simp [evBig, evStep, evPure, h30, sp30, decL_enc, hr, Xt.enc]; with_reducible rfl)); skip)
 | (apply evOps_split; (case _hg => rfl); (case _ht => rfl); (case hb => (simp [dstB]; with_reducible rfl)); (case hv => ((fail_if_success (with_reducible exact (rfl : (_ : AV) = AV.d (.val (.bool true)) _))); (fail_if_success (with_reducible exact (rfl : (_ : AV) = AV.d (.val (.bool false)) _))); rfl)); skip)
 | (apply WP_cond; (case hx => (simp [St.eval, dstB, h30, sp30, decL_enc, hr, Xt.enc]; with_reducible rfl)); (case hv => rfl); skip))
    all_goals simp [Fin1, resVals, ownOf, FinList1, FinOne1, FinWr1, nodupB, Try.results10, out10, hr, evStep, evPure]
  · repeat' (first
 | (intro h; first | (exfalso; exact Bool.noConfusion h) | (simp only [decide_eq_true_eq, decide_eq_false_iff_not] at h) | skip)
 | (apply evOps_fin; (case hf => (simp only [finGo, app1]; rfl)); skip)
 | refine WP_seq ?_
 | refine WP_scope ?_
 | refine WP_block ?_
 | refine WP_ret ?_
 | refine WP_skip ?_
 | refine WP_exit ?_
 | (apply WP_region; (case hl => rfl); (case hc => (simp only [put_env', put_own', put_ctr', put_none', setOwn_env', setOwn_own', setOwn_ctr', setCtr_env', setCtr_own', setCtr_ctr', entry, entryEnv, entryOwn, inAV, scAV, inOB]; rfl)); (case hc' => (conv => lhs; simp only [List.size_toArray, List.length_cons, List.length_nil, Nat.zero_add, Nat.reduceAdd, Nat.add_assoc])); skip)
 | (apply WP_draw; (case hl => rfl); (case hds => (simp only [List.map_cons, List.map_nil]; rfl)); (case hc => (simp only [put_env', put_own', put_ctr', put_none', setOwn_env', setOwn_own', setOwn_ctr', setCtr_env', setCtr_own', setCtr_ctr', entry, entryEnv, entryOwn, inAV, scAV, inOB]; rfl)); (case hc' => (conv => lhs; simp only [List.size_toArray, List.length_cons, List.length_nil, Nat.zero_add, Nat.reduceAdd, Nat.add_assoc])); (case hD => rfl); (case hb => kernel_rfl); (case h1 => (simp only [List.take_succ_cons, List.take_zero]; rfl)); (case h2 => (simp only [List.drop_succ_cons, List.drop_zero]; rfl)); (case h3 => (simp only [List.take_succ_cons, List.take_zero]; rfl)); intro had; skip)
 | refine evOps_nil ?_
 | refine evQ_nil ?_
 | (apply evQ_one; (case had => assumption); (case hg => rfl); (case hd => (simp [dstB]; done)); (case h => (simp [evQuiet, evCallQ, known, njk, AV.isJunk, Op.operands, Call.operands, evEff, evStep, evPure, h30, sp30, decL_enc, hr, Xt.enc, h31, E10_31]; with_reducible rfl)); (case hs => (simp; done)); (case hR => (simp only [List.nil_append, List.cons_append]; rfl)); skip)
 | (apply evQ_yes; (case had => assumption); (case hg => rfl); (case hb => (simp [gval, evEff, dstB, h30, sp30, decL_enc, hr, Xt.enc, h31, E10_31]; done)); (case hd => (simp [dstB]; done)); (case h => (simp [evQuiet, evCallQ, known, njk, AV.isJunk, Op.operands, Call.operands, evEff, evStep, evPure, h30, sp30, decL_enc, hr, Xt.enc, h31, E10_31]; with_reducible rfl)); (case hs => (simp; done)); (case hR => (simp only [List.nil_append, List.cons_append]; rfl)); skip)
 | (apply evQ_no; (case had => assumption); (case hg => rfl); (case hb => (simp [gval, evEff, dstB, h30, sp30, decL_enc, hr, Xt.enc, h31, E10_31]; with_reducible rfl)); (case hne => (simp; done)); (case hd => (simp [dstB]; done)); (case hR => (simp only [List.nil_append, List.cons_append]; rfl)); skip)
 | (apply evQ_split; (case hg => rfl); (case hb => (simp only [List.getElem?_cons_succ, List.getElem?_cons_zero]; rfl)); (case hv => ((fail_if_success (with_reducible exact (rfl : (_ : QR) = (AV.d (.val (.bool true)) _, none)))); (fail_if_success (with_reducible exact (rfl : (_ : QR) = (AV.d (.val (.bool false)) _, none)))); rfl)); (case hT => (simp only [List.set_cons_succ, List.set_cons_zero]; rfl)); (case hF => (simp only [List.set_cons_succ, List.set_cons_zero]; rfl)); skip)
 | (apply evOps_one; (case hg => rfl); (case h => (simp [evStep, evPure, h30, sp30, decL_enc, hr, Xt.enc, h31, E10_31]; with_reducible rfl)); skip)
 | (apply evOps_yes; (case hg => rfl); (case hb => (simp [gval, dstB, h30, sp30, decL_enc, hr, Xt.enc, h31, E10_31]; done)); (case h => (simp [evStep, evPure, h30, sp30, decL_enc, hr, Xt.enc, h31, E10_31]; with_reducible rfl)); skip)
 | (apply evOps_no; (case hg => rfl); (case hb => (simp [gval, dstB, h30, sp30, decL_enc, hr, Xt.enc, h31, E10_31]; with_reducible rfl)); (case hne => (simp; done)); (case hd => (simp [dstB]; done)); skip)
 | (apply evOps_big; (case hg => rfl); (case hd => (simp [dstB]; done)); (case hb => (simp [evBig, evStep, evPure, h30, sp30, decL_enc, hr, Xt.enc, h31, E10_31]; with_reducible rfl)); skip)
 | (apply evOps_bigYes; (case hg => rfl); (case hgv => (simp [gval, dstB, h30, sp30, decL_enc, hr, Xt.enc, h31, E10_31]; done)); (case hd => (simp [dstB]; done)); (case hb => (simp [evBig, evStep, evPure, h30, sp30, decL_enc, hr, Xt.enc, h31, E10_31]; with_reducible rfl)); skip)
 | (apply evOps_split; (case _hg => rfl); (case _ht => rfl); (case hb => (simp [dstB]; with_reducible rfl)); (case hv => ((fail_if_success (with_reducible exact (rfl : (_ : AV) = AV.d (.val (.bool true)) _))); (fail_if_success (with_reducible exact (rfl : (_ : AV) = AV.d (.val (.bool false)) _))); rfl)); skip)
 | (apply WP_cond; (case hx => (simp [St.eval, dstB, h30, sp30, decL_enc, hr, Xt.enc, h31, E10_31]; with_reducible rfl)); (case hv => rfl); skip))
    refine ⟨by simp [Try.ntmps31], ?_⟩
    show WP _ _ _ _ _ _ _ (Code.seq _ _) _ _
    repeat' (first
 | (intro h; first | (exfalso; exact Bool.noConfusion h) | (simp only [decide_eq_true_eq, decide_eq_false_iff_not] at h) | skip)
 | (apply evOps_fin; (case hf => (simp only [finGo, app1]; rfl)); skip)
 | refine WP_seq ?_
 | refine WP_scope ?_
 | refine WP_block ?_
 | refine WP_ret ?_
 | refine WP_skip ?_
 | refine WP_exit ?_
 | (apply WP_region; (case hl => rfl); (case hc => (simp only [put_env', put_own', put_ctr', put_none', setOwn_env', setOwn_own', setOwn_ctr', setCtr_env', setCtr_own', setCtr_ctr', entry, entryEnv, entryOwn, inAV, scAV, inOB]; rfl)); (case hc' => (conv => lhs; simp only [List.size_toArray, List.length_cons, List.length_nil, Nat.zero_add, Nat.reduceAdd, Nat.add_assoc])); skip)
 | (apply WP_draw; (case hl => rfl); (case hds => (simp only [List.map_cons, List.map_nil]; rfl)); (case hc => (simp only [put_env', put_own', put_ctr', put_none', setOwn_env', setOwn_own', setOwn_ctr', setCtr_env', setCtr_own', setCtr_ctr', entry, entryEnv, entryOwn, inAV, scAV, inOB]; rfl)); (case hc' => (conv => lhs; simp only [List.size_toArray, List.length_cons, List.length_nil, Nat.zero_add, Nat.reduceAdd, Nat.add_assoc])); (case hD => rfl); (case hb => kernel_rfl); (case h1 => (simp only [List.take_succ_cons, List.take_zero]; rfl)); (case h2 => (simp only [List.drop_succ_cons, List.drop_zero]; rfl)); (case h3 => (simp only [List.take_succ_cons, List.take_zero]; rfl)); intro had; skip)
 | refine evOps_nil ?_
 | refine evQ_nil ?_
 | (apply evQ_one; (case had => assumption); (case hg => rfl); (case hd => (simp [dstB]; done)); (case h => (simp [evQuiet, evCallQ, known, njk, AV.isJunk, Op.operands, Call.operands, evEff, evStep, evPure, envOf]; with_reducible rfl)); (case hs => (simp; done)); (case hR => (simp only [List.nil_append, List.cons_append]; rfl)); skip)
 | (apply evQ_yes; (case had => assumption); (case hg => rfl); (case hb => (simp [gval, evEff, dstB, envOf]; done)); (case hd => (simp [dstB]; done)); (case h => (simp [evQuiet, evCallQ, known, njk, AV.isJunk, Op.operands, Call.operands, evEff, evStep, evPure, envOf]; with_reducible rfl)); (case hs => (simp; done)); (case hR => (simp only [List.nil_append, List.cons_append]; rfl)); skip)
 | (apply evQ_no; (case had => assumption); (case hg => rfl); (case hb => (simp [gval, evEff, dstB, envOf]; with_reducible rfl)); (case hne => (simp; done)); (case hd => (simp [dstB]; done)); (case hR => (simp only [List.nil_append, List.cons_append]; rfl)); skip)
 | (apply evQ_split; (case hg => rfl); (case hb => (simp only [List.getElem?_cons_succ, List.getElem?_cons_zero]; rfl)); (case hv => ((fail_if_success (with_reducible exact (rfl : (_ : QR) = (AV.d (.val (.bool true)) _, none)))); (fail_if_success (with_reducible exact (rfl : (_ : QR) = (AV.d (.val (.bool false)) _, none)))); rfl)); (case hT => (simp only [List.set_cons_succ, List.set_cons_zero]; rfl)); (case hF => (simp only [List.set_cons_succ, List.set_cons_zero]; rfl)); skip)
 | (apply evOps_one; (case hg => rfl); (case h => (simp [evStep, evPure, envOf]; with_reducible rfl)); skip)
 | (apply evOps_yes; (case hg => rfl); (case hb => (simp [gval, dstB, envOf]; done)); (case h => (simp [evStep, evPure, envOf]; with_reducible rfl)); skip)
 | (apply evOps_no; (case hg => rfl); (case hb => (simp [gval, dstB, envOf]; with_reducible rfl)); (case hne => (simp; done)); (case hd => (simp [dstB]; done)); skip)
 | (apply evOps_big; (case hg => rfl); (case hd => (simp [dstB]; done)); (case hb => (simp [evBig, evStep, evPure, envOf]; with_reducible rfl)); skip)
 | (apply evOps_bigYes; (case hg => rfl); (case hgv => (simp [gval, dstB, envOf]; done)); (case hd => (simp [dstB]; done)); (case hb => (simp [evBig, evStep, evPure, envOf]; with_reducible rfl)); skip)
 | (apply evOps_split; (case _hg => rfl); (case _ht => rfl); (case hb => (simp [dstB]; with_reducible rfl)); (case hv => ((fail_if_success (with_reducible exact (rfl : (_ : AV) = AV.d (.val (.bool true)) _))); (fail_if_success (with_reducible exact (rfl : (_ : AV) = AV.d (.val (.bool false)) _))); rfl)); skip)
 | (apply WP_cond; (case hx => (simp [St.eval, dstB, envOf]; with_reducible rfl)); (case hv => rfl); skip))
    simp only []
    refine ⟨_, (by simp [resVals, Try.results31, dstB]; with_reducible rfl), ?_⟩
    show evOps _ _ _ _ _ _ _ _ _ _ _
    repeat' (first
 | (intro h; first | (exfalso; exact Bool.noConfusion h) | (simp only [decide_eq_true_eq, decide_eq_false_iff_not] at h) | skip)
 | (apply evOps_fin; (case hf => (simp only [finGo, app1]; rfl)); skip)
 | refine WP_seq ?_
 | refine WP_scope ?_
 | refine WP_block ?_
 | refine WP_ret ?_
 | refine WP_skip ?_
 | refine WP_exit ?_
 | (apply WP_region; (case hl => rfl); (case hc => (simp only [put_env', put_own', put_ctr', put_none', setOwn_env', setOwn_own', setOwn_ctr', setCtr_env', setCtr_own', setCtr_ctr', entry, entryEnv, entryOwn, inAV, scAV, inOB]; rfl)); (case hc' => (conv => lhs; simp only [List.size_toArray, List.length_cons, List.length_nil, Nat.zero_add, Nat.reduceAdd, Nat.add_assoc])); skip)
 | (apply WP_draw; (case hl => rfl); (case hds => (simp only [List.map_cons, List.map_nil]; rfl)); (case hc => (simp only [put_env', put_own', put_ctr', put_none', setOwn_env', setOwn_own', setOwn_ctr', setCtr_env', setCtr_own', setCtr_ctr', entry, entryEnv, entryOwn, inAV, scAV, inOB]; rfl)); (case hc' => (conv => lhs; simp only [List.size_toArray, List.length_cons, List.length_nil, Nat.zero_add, Nat.reduceAdd, Nat.add_assoc])); (case hD => rfl); (case hb => kernel_rfl); (case h1 => (simp only [List.take_succ_cons, List.take_zero]; rfl)); (case h2 => (simp only [List.drop_succ_cons, List.drop_zero]; rfl)); (case h3 => (simp only [List.take_succ_cons, List.take_zero]; rfl)); intro had; skip)
 | refine evOps_nil ?_
 | refine evQ_nil ?_
 | (apply evQ_one; (case had => assumption); (case hg => rfl); (case hd => (simp [dstB]; done)); (case h => (simp [evQuiet, evCallQ, known, njk, AV.isJunk, Op.operands, Call.operands, evEff, evStep, evPure, envOf]; with_reducible rfl)); (case hs => (simp; done)); (case hR => (simp only [List.nil_append, List.cons_append]; rfl)); skip)
 | (apply evQ_yes; (case had => assumption); (case hg => rfl); (case hb => (simp [gval, evEff, dstB, envOf]; done)); (case hd => (simp [dstB]; done)); (case h => (simp [evQuiet, evCallQ, known, njk, AV.isJunk, Op.operands, Call.operands, evEff, evStep, evPure, envOf]; with_reducible rfl)); (case hs => (simp; done)); (case hR => (simp only [List.nil_append, List.cons_append]; rfl)); skip)
 | (apply evQ_no; (case had => assumption); (case hg => rfl); (case hb => (simp [gval, evEff, dstB, envOf]; with_reducible rfl)); (case hne => (simp; done)); (case hd => (simp [dstB]; done)); (case hR => (simp only [List.nil_append, List.cons_append]; rfl)); skip)
 | (apply evQ_split; (case hg => rfl); (case hb => (simp only [List.getElem?_cons_succ, List.getElem?_cons_zero]; rfl)); (case hv => ((fail_if_success (with_reducible exact (rfl : (_ : QR) = (AV.d (.val (.bool true)) _, none)))); (fail_if_success (with_reducible exact (rfl : (_ : QR) = (AV.d (.val (.bool false)) _, none)))); rfl)); (case hT => (simp only [List.set_cons_succ, List.set_cons_zero]; rfl)); (case hF => (simp only [List.set_cons_succ, List.set_cons_zero]; rfl)); skip)
 | (apply evOps_one; (case hg => rfl); (case h => (simp [evStep, evPure, envOf]; with_reducible rfl)); skip)
 | (apply evOps_yes; (case hg => rfl); (case hb => (simp [gval, dstB, envOf]; done)); (case h => (simp [evStep, evPure, envOf]; with_reducible rfl)); skip)
 | (apply evOps_no; (case hg => rfl); (case hb => (simp [gval, dstB, envOf]; with_reducible rfl)); (case hne => (simp; done)); (case hd => (simp [dstB]; done)); skip)
 | (apply evOps_big; (case hg => rfl); (case hd => (simp [dstB]; done)); (case hb => (simp [evBig, evStep, evPure, envOf]; with_reducible rfl)); skip)
 | (apply evOps_bigYes; (case hg => rfl); (case hgv => (simp [gval, dstB, envOf]; done)); (case hd => (simp [dstB]; done)); (case hb => (simp [evBig, evStep, evPure, envOf]; with_reducible rfl)); skip)
 | (apply evOps_split; (case _hg => rfl); (case _ht => rfl); (case hb => (simp [dstB]; with_reducible rfl)); (case hv => ((fail_if_success (with_reducible exact (rfl : (_ : AV) = AV.d (.val (.bool true)) _))); (fail_if_success (with_reducible exact (rfl : (_ : AV) = AV.d (.val (.bool false)) _))); rfl)); skip)
 | (apply WP_cond; (case hx => (simp [St.eval, dstB, envOf]; with_reducible rfl)); (case hv => rfl); skip))
    have hck : checkX l = true := by simp [rangedX] at hr; exact hr.1
    have hlen := check_len hck
    refine ⟨rfl, 55, [.rp 1003 15 0 0, .rp 1004 16 0 0, .rp 1005 17 0 0], _, (by simp [St.eval, dstB, packAV]), rfl, (by simp [Try.ntmps10]), fun rec => ?_⟩
    refine split_walk h23 h56 (Inv10 n l p q 15 16 17 9 10 21 false false false false false (rec .ready none)) (by omega) ?hI (fun d σ h => h.2.1) ?hY ?hK ?h0
    case hI =>
      rintro d σ σ' hx hc ⟨h1, ⟨h2, h3, h4⟩, ⟨v, h5, h6⟩, ⟨v', h7, h8⟩⟩
      refine ⟨(hx 999 (by decide)).trans h1, ⟨(hx 1003 (by decide)).trans h2, (hx 1004 (by decide)).trans h3, (hx 1005 (by decide)).trans h4⟩, ⟨v, (hx 9 (by decide)).trans h5, ?_⟩, ⟨v', (hx 10 (by decide)).trans h7, ?_⟩⟩
      · rw [hx 38 (by decide)]; exact h6
      · rw [hx 34 (by decide)]; exact h8
    case h0 =>
      refine ⟨by simp [dstB, lpName], ⟨?_, ?_, ?_⟩, ⟨_, ?_, .inl ⟨rfl, rfl⟩⟩, ⟨_, ?_, .inl ⟨rfl, rfl⟩⟩⟩
      all_goals simp [dstB, lpName]
    case hK =>
      intro σe hc he hinv
      obtain ⟨o999, -, ⟨v9, o9, hv9⟩, ⟨v10, o10, hv10⟩⟩ := hinv
      refine .inl ⟨o999, ?_⟩
      have e9 : σe.env 9 = .rp 9 9 0 0 := by rw [he]; simp [dstB]
      have e10 : σe.env 10 = .rp 10 10 0 0 := by rw [he]; simp [dstB]
      clear he hc o999
      obtain ⟨m, hm⟩ : ∃ m, leftX (piecesX p q l) = m := ⟨_, rfl⟩
      obtain ⟨sps, hs⟩ : ∃ m, spanX (piecesX p q l) = m := ⟨_, rfl⟩
      have hm1 : m.length ≤ 1000 := by
        have h1 := piecesX_len p q l
        have h2 := leftX_len (piecesX p q l)
        rw [hm] at h2
        omega
      rw [hm] at hv9
      rw [hs] at hv10
      have htk : List.take m.length (m.map Xt.enc) = m.map Xt.enc := List.take_of_length_le (by simp)
      have htk2 : List.take (mergeX m).length ((mergeX m).map Xt.enc) = (mergeX m).map Xt.enc := List.take_of_length_le (by simp)
      have htk3 : List.take sps.length sps = sps := List.take_of_length_le (Nat.le_refl _)
      rcases hv9 with ⟨h0, rfl⟩ | ⟨hne, g, fr, rfl, o38⟩
      · subst h0
        rcases hv10 with ⟨hs0, rfl⟩ | ⟨hs0, g', rfl, o34⟩
        · subst hs0
          have hs0 : True := trivial
          repeat' (first
 | (intro h; first | (exfalso; exact Bool.noConfusion h) | (simp only [decide_eq_true_eq, decide_eq_false_iff_not] at h) | skip)
 | (apply evOps_fin; (case hf => (simp only [finGo, app1]; rfl)); skip)
 | refine WP_seq ?_
 | refine WP_scope ?_
 | refine WP_block ?_
 | refine WP_ret ?_
 | refine WP_skip ?_
 | refine WP_exit ?_
 | (apply WP_region; (case hl => rfl); (case hc => (simp only [put_env', put_own', put_ctr', put_none', setOwn_env', setOwn_own', setOwn_ctr', setCtr_env', setCtr_own', setCtr_ctr', entry, entryEnv, entryOwn, inAV, scAV, inOB]; rfl)); (case hc' => (conv => lhs; simp only [List.size_toArray, List.length_cons, List.length_nil, Nat.zero_add, Nat.reduceAdd, Nat.add_assoc])); skip)
 | (apply WP_draw; (case hl => rfl); (case hds => (simp only [List.map_cons, List.map_nil]; rfl)); (case hc => (simp only [put_env', put_own', put_ctr', put_none', setOwn_env', setOwn_own', setOwn_ctr', setCtr_env', setCtr_own', setCtr_ctr', entry, entryEnv, entryOwn, inAV, scAV, inOB]; rfl)); (case hc' => (conv => lhs; simp only [List.size_toArray, List.length_cons, List.length_nil, Nat.zero_add, Nat.reduceAdd, Nat.add_assoc])); (case hD => rfl); (case hb => kernel_rfl); (case h1 => (simp only [List.take_succ_cons, List.take_zero]; rfl)); (case h2 => (simp only [List.drop_succ_cons, List.drop_zero]; rfl)); (case h3 => (simp only [List.take_succ_cons, List.take_zero]; rfl)); intro had; skip)
 | refine evOps_nil ?_
 | refine evQ_nil ?_
 | (apply evQ_one; (case had => assumption); (case hg => rfl); (case hd => (simp [dstB]; done)); (case h => (simp [evQuiet, evCallQ, known, njk, AV.isJunk, Op.operands, Call.operands, evEff, evStep, evPure, e9, e10, o9, o10, lpName, decL_enc, decL, htk, htk2, htk3, hm1, h29, sp29, List.filter_cons, mergeX_nil]; with_reducible rfl)); (case hs => (simp; done)); (case hR => (simp only [List.nil_append, List.cons_append]; rfl)); skip)
 | (apply evQ_yes; (case had => assumption); (case hg => rfl); (case hb => (simp [gval, evEff, dstB, e9, e10, o9, o10, lpName, decL_enc, decL, htk, htk2, htk3, hm1, h29, sp29, List.filter_cons, mergeX_nil]; done)); (case hd => (simp [dstB]; done)); (case h => (simp [evQuiet, evCallQ, known, njk, AV.isJunk, Op.operands, Call.operands, evEff, evStep, evPure, e9, e10, o9, o10, lpName, decL_enc, decL, htk, htk2, htk3, hm1, h29, sp29, List.filter_cons, mergeX_nil]; with_reducible rfl)); (case hs => (simp; done)); (case hR => (simp only [List.nil_append, List.cons_append]; rfl)); skip)
 | (apply evQ_no; (case had => assumption); (case hg => rfl); (case hb => (simp [gval, evEff, dstB, e9, e10, o9, o10, lpName, decL_enc, decL, htk, htk2, htk3, hm1, h29, sp29, List.filter_cons, mergeX_nil]; with_reducible rfl)); (case hne => (simp; done)); (case hd => (simp [dstB]; done)); (case hR => (simp only [List.nil_append, List.cons_append]; rfl)); skip)
 | (apply evQ_split; (case hg => rfl); (case hb => (simp only [List.getElem?_cons_succ, List.getElem?_cons_zero]; rfl)); (case hv => ((fail_if_success (with_reducible exact (rfl : (_ : QR) = (AV.d (.val (.bool true)) _, none)))); (fail_if_success (with_reducible exact (rfl : (_ : QR) = (AV.d (.val (.bool false)) _, none)))); rfl)); (case hT => (simp only [List.set_cons_succ, List.set_cons_zero]; rfl)); (case hF => (simp only [List.set_cons_succ, List.set_cons_zero]; rfl)); skip)
 | (apply evOps_one; (case hg => rfl); (case h => (simp [evStep, evPure, e9, e10, o9, o10, lpName, decL_enc, decL, htk, htk2, htk3, hm1, h29, sp29, List.filter_cons, mergeX_nil]; with_reducible rfl)); skip)
 | (apply evOps_yes; (case hg => rfl); (case hb => (simp [gval, dstB, e9, e10, o9, o10, lpName, decL_enc, decL, htk, htk2, htk3, hm1, h29, sp29, List.filter_cons, mergeX_nil]; done)); (case h => (simp [evStep, evPure, e9, e10, o9, o10, lpName, decL_enc, decL, htk, htk2, htk3, hm1, h29, sp29, List.filter_cons, mergeX_nil]; with_reducible rfl)); skip)
 | (apply evOps_no; (case hg => rfl); (case hb => (simp [gval, dstB, e9, e10, o9, o10, lpName, decL_enc, decL, htk, htk2, htk3, hm1, h29, sp29, List.filter_cons, mergeX_nil]; with_reducible rfl)); (case hne => (simp; done)); (case hd => (simp [dstB]; done)); skip)
 | (apply evOps_big; (case hg => rfl); (case hd => (simp [dstB]; done)); (case hb => (simp [evBig, evStep, evPure, e9, e10, o9, o10, lpName, decL_enc, decL, htk, htk2, htk3, hm1, h29, sp29, List.filter_cons, mergeX_nil]; with_reducible rfl)); skip)
 | (apply evOps_bigYes; (case hg => rfl); (case hgv => (simp [gval, dstB, e9, e10, o9, o10, lpName, decL_enc, decL, htk, htk2, htk3, hm1, h29, sp29, List.filter_cons, mergeX_nil]; done)); (case hd => (simp [dstB]; done)); (case hb => (simp [evBig, evStep, evPure, e9, e10, o9, o10, lpName, decL_enc, decL, htk, htk2, htk3, hm1, h29, sp29, List.filter_cons, mergeX_nil]; with_reducible rfl)); skip)
 | (apply evOps_split; (case _hg => rfl); (case _ht => rfl); (case hb => (simp [dstB]; with_reducible rfl)); (case hv => ((fail_if_success (with_reducible exact (rfl : (_ : AV) = AV.d (.val (.bool true)) _))); (fail_if_success (with_reducible exact (rfl : (_ : AV) = AV.d (.val (.bool false)) _))); rfl)); skip)
 | (apply WP_cond; (case hx => (simp [St.eval, dstB, e9, e10, o9, o10, lpName, decL_enc, decL, htk, htk2, htk3, hm1, h29, sp29, List.filter_cons, mergeX_nil]; with_reducible rfl)); (case hv => rfl); skip))
          all_goals simp [Fin1, resVals, ownOf, FinList1, FinOne1, FinWr1, nodupB, Try.results10, out10, outSl, hr, hm, hs, htk, htk2, htk3, mergeX_nil, hs0, evStep, evPure]
        · repeat' (first
 | (intro h; first | (exfalso; exact Bool.noConfusion h) | (simp only [decide_eq_true_eq, decide_eq_false_iff_not] at h) | skip)
 | (apply evOps_fin; (case hf => (simp only [finGo, app1]; rfl)); skip)
 | refine WP_seq ?_
 | refine WP_scope ?_
 | refine WP_block ?_
 | refine WP_ret ?_
 | refine WP_skip ?_
 | refine WP_exit ?_
 | (apply WP_region; (case hl => rfl); (case hc => (simp only [put_env', put_own', put_ctr', put_none', setOwn_env', setOwn_own', setOwn_ctr', setCtr_env', setCtr_own', setCtr_ctr', entry, entryEnv, entryOwn, inAV, scAV, inOB]; rfl)); (case hc' => (conv => lhs; simp only [List.size_toArray, List.length_cons, List.length_nil, Nat.zero_add, Nat.reduceAdd, Nat.add_assoc])); skip)
 | (apply WP_draw; (case hl => rfl); (case hds => (simp only [List.map_cons, List.map_nil]; rfl)); (case hc => (simp only [put_env', put_own', put_ctr', put_none', setOwn_env', setOwn_own', setOwn_ctr', setCtr_env', setCtr_own', setCtr_ctr', entry, entryEnv, entryOwn, inAV, scAV, inOB]; rfl)); (case hc' => (conv => lhs; simp only [List.size_toArray, List.length_cons, List.length_nil, Nat.zero_add, Nat.reduceAdd, Nat.add_assoc])); (case hD => rfl); (case hb => kernel_rfl); (case h1 => (simp only [List.take_succ_cons, List.take_zero]; rfl)); (case h2 => (simp only [List.drop_succ_cons, List.drop_zero]; rfl)); (case h3 => (simp only [List.take_succ_cons, List.take_zero]; rfl)); intro had; skip)
 | refine evOps_nil ?_
 | refine evQ_nil ?_
 | (apply evQ_one; (case had => assumption); (case hg => rfl); (case hd => (simp [dstB]; done)); (case h => (simp [evQuiet, evCallQ, known, njk, AV.isJunk, Op.operands, Call.operands, evEff, evStep, evPure, e9, e10, o9, o10, lpName, decL_enc, decL, htk, htk2, htk3, hm1, h29, sp29, List.filter_cons, mergeX_nil]; with_reducible rfl)); (case hs => (simp; done)); (case hR => (simp only [List.nil_append, List.cons_append]; rfl)); skip)
 | (apply evQ_yes; (case had => assumption); (case hg => rfl); (case hb => (simp [gval, evEff, dstB, e9, e10, o9, o10, lpName, decL_enc, decL, htk, htk2, htk3, hm1, h29, sp29, List.filter_cons, mergeX_nil]; done)); (case hd => (simp [dstB]; done)); (case h => (simp [evQuiet, evCallQ, known, njk, AV.isJunk, Op.operands, Call.operands, evEff, evStep, evPure, e9, e10, o9, o10, lpName, decL_enc, decL, htk, htk2, htk3, hm1, h29, sp29, List.filter_cons, mergeX_nil]; with_reducible rfl)); (case hs => (simp; done)); (case hR => (simp only [List.nil_append, List.cons_append]; rfl)); skip)
 | (apply evQ_no; (case had => assumption); (case hg => rfl); (case hb => (simp [gval, evEff, dstB, e9, e10, o9, o10, lpName, decL_enc, decL, htk, htk2, htk3, hm1, h29, sp29, List.filter_cons, mergeX_nil]; with_reducible rfl)); (case hne => (simp; done)); (case hd => (simp [dstB]; done)); (case hR => (simp only [List.nil_append, List.cons_append]; rfl)); skip)
 | (apply evQ_split; (case hg => rfl); (case hb => (simp only [List.getElem?_cons_succ, List.getElem?_cons_zero]; rfl)); (case hv => ((fail_if_success (with_reducible exact (rfl : (_ : QR) = (AV.d (.val (.bool true)) _, none)))); (fail_if_success (with_reducible exact (rfl : (_ : QR) = (AV.d (.val (.bool false)) _, none)))); rfl)); (case hT => (simp only [List.set_cons_succ, List.set_cons_zero]; rfl)); (case hF => (simp only [List.set_cons_succ, List.set_cons_zero]; rfl)); skip)
 | (apply evOps_one; (case hg => rfl); (case h => (simp [evStep, evPure, e9, e10, o9, o10, lpName, decL_enc, decL, htk, htk2, htk3, hm1, h29, sp29, List.filter_cons, mergeX_nil]; with_reducible rfl)); skip)
 | (apply evOps_yes; (case hg => rfl); (case hb => (simp [gval, dstB, e9, e10, o9, o10, lpName, decL_enc, decL, htk, htk2, htk3, hm1, h29, sp29, List.filter_cons, mergeX_nil]; done)); (case h => (simp [evStep, evPure, e9, e10, o9, o10, lpName, decL_enc, decL, htk, htk2, htk3, hm1, h29, sp29, List.filter_cons, mergeX_nil]; with_reducible rfl)); skip)
 | (apply evOps_no; (case hg => rfl); (case hb => (simp [gval, dstB, e9, e10, o9, o10, lpName, decL_enc, decL, htk, htk2, htk3, hm1, h29, sp29, List.filter_cons, mergeX_nil]; with_reducible rfl)); (case hne => (simp; done)); (case hd => (simp [dstB]; done)); skip)
 | (apply evOps_big; (case hg => rfl); (case hd => (simp [dstB]; done)); (case hb => (simp [evBig, evStep, evPure, e9, e10, o9, o10, lpName, decL_enc, decL, htk, htk2, htk3, hm1, h29, sp29, List.filter_cons, mergeX_nil]; with_reducible rfl)); skip)
 | (apply evOps_bigYes; (case hg => rfl); (case hgv => (simp [gval, dstB, e9, e10, o9, o10, lpName, decL_enc, decL, htk, htk2, htk3, hm1, h29, sp29, List.filter_cons, mergeX_nil]; done)); (case hd => (simp [dstB]; done)); (case hb => (simp [evBig, evStep, evPure, e9, e10, o9, o10, lpName, decL_enc, decL, htk, htk2, htk3, hm1, h29, sp29, List.filter_cons, mergeX_nil]; with_reducible rfl)); skip)
 | (apply evOps_split; (case _hg => rfl); (case _ht => rfl); (case hb => (simp [dstB]; with_reducible rfl)); (case hv => ((fail_if_success (with_reducible exact (rfl : (_ : AV) = AV.d (.val (.bool true)) _))); (fail_if_success (with_reducible exact (rfl : (_ : AV) = AV.d (.val (.bool false)) _))); rfl)); skip)
 | (apply WP_cond; (case hx => (simp [St.eval, dstB, e9, e10, o9, o10, lpName, decL_enc, decL, htk, htk2, htk3, hm1, h29, sp29, List.filter_cons, mergeX_nil]; with_reducible rfl)); (case hv => rfl); skip))
          all_goals simp [Fin1, resVals, ownOf, FinList1, FinOne1, FinWr1, nodupB, Try.results10, out10, outSl, hr, hm, hs, htk, htk2, htk3, mergeX_nil, o34, hs0, evStep, evPure]
      · have hne2 : mergeX m ≠ [] := mergeX_ne hne
        rcases hv10 with ⟨hs0, rfl⟩ | ⟨hs0, g', rfl, o34⟩
        · subst hs0
          have hs0 : True := trivial
          by_cases h60 : (mergeX m).length > 60
          · repeat' (first
 | (intro h; first | (exfalso; exact Bool.noConfusion h) | (simp only [decide_eq_true_eq, decide_eq_false_iff_not] at h) | skip)
 | (apply evOps_fin; (case hf => (simp only [finGo, app1]; rfl)); skip)
 | refine WP_seq ?_
 | refine WP_scope ?_
 | refine WP_block ?_
 | refine WP_ret ?_
 | refine WP_skip ?_
 | refine WP_exit ?_
 | (apply WP_region; (case hl => rfl); (case hc => (simp only [put_env', put_own', put_ctr', put_none', setOwn_env', setOwn_own', setOwn_ctr', setCtr_env', setCtr_own', setCtr_ctr', entry, entryEnv, entryOwn, inAV, scAV, inOB]; rfl)); (case hc' => (conv => lhs; simp only [List.size_toArray, List.length_cons, List.length_nil, Nat.zero_add, Nat.reduceAdd, Nat.add_assoc])); skip)
 | (apply WP_draw; (case hl => rfl); (case hds => (simp only [List.map_cons, List.map_nil]; rfl)); (case hc => (simp only [put_env', put_own', put_ctr', put_none', setOwn_env', setOwn_own', setOwn_ctr', setCtr_env', setCtr_own', setCtr_ctr', entry, entryEnv, entryOwn, inAV, scAV, inOB]; rfl)); (case hc' => (conv => lhs; simp only [List.size_toArray, List.length_cons, List.length_nil, Nat.zero_add, Nat.reduceAdd, Nat.add_assoc])); (case hD => rfl); (case hb => kernel_rfl); (case h1 => (simp only [List.take_succ_cons, List.take_zero]; rfl)); (case h2 => (simp only [List.drop_succ_cons, List.drop_zero]; rfl)); (case h3 => (simp only [List.take_succ_cons, List.take_zero]; rfl)); intro had; skip)
 | refine evOps_nil ?_
 | refine evQ_nil ?_
 | (apply evQ_one; (case had => assumption); (case hg => rfl); (case hd => (simp [dstB]; done)); (case h => (simp [evQuiet, evCallQ, known, njk, AV.isJunk, Op.operands, Call.operands, evEff, evStep, evPure, e9, e10, o9, o10, lpName, decL_enc, decL, htk, htk2, htk3, hm1, h29, sp29, List.filter_cons, mergeX_nil, o38, hne, h60]; with_reducible rfl)); (case hs => (simp; done)); (case hR => (simp only [List.nil_append, List.cons_append]; rfl)); skip)
 | (apply evQ_yes; (case had => assumption); (case hg => rfl); (case hb => (simp [gval, evEff, dstB, e9, e10, o9, o10, lpName, decL_enc, decL, htk, htk2, htk3, hm1, h29, sp29, List.filter_cons, mergeX_nil, o38, hne, h60]; done)); (case hd => (simp [dstB]; done)); (case h => (simp [evQuiet, evCallQ, known, njk, AV.isJunk, Op.operands, Call.operands, evEff, evStep, evPure, e9, e10, o9, o10, lpName, decL_enc, decL, htk, htk2, htk3, hm1, h29, sp29, List.filter_cons, mergeX_nil, o38, hne, h60]; with_reducible rfl)); (case hs => (simp; done)); (case hR => (simp only [List.nil_append, List.cons_append]; rfl)); skip)
 | (apply evQ_no; (case had => assumption); (case hg => rfl); (case hb => (simp [gval, evEff, dstB, e9, e10, o9, o10, lpName, decL_enc, decL, htk, htk2, htk3, hm1, h29, sp29, List.filter_cons, mergeX_nil, o38, hne, h60]; with_reducible rfl)); (case hne => (simp; done)); (case hd => (simp [dstB]; done)); (case hR => (simp only [List.nil_append, List.cons_append]; rfl)); skip)
 | (apply evQ_split; (case hg => rfl); (case hb => (simp only [List.getElem?_cons_succ, List.getElem?_cons_zero]; rfl)); (case hv => ((fail_if_success (with_reducible exact (rfl : (_ : QR) = (AV.d (.val (.bool true)) _, none)))); (fail_if_success (with_reducible exact (rfl : (_ : QR) = (AV.d (.val (.bool false)) _, none)))); rfl)); (case hT => (simp only [List.set_cons_succ, List.set_cons_zero]; rfl)); (case hF => (simp only [List.set_cons_succ, List.set_cons_zero]; rfl)); skip)
 | (apply evOps_one; (case hg => rfl); (case h => (simp [evStep, evPure, e9, e10, o9, o10, lpName, decL_enc, decL, htk, htk2, htk3, hm1, h29, sp29, List.filter_cons, mergeX_nil, o38, hne, h60]; with_reducible rfl)); skip)
 | (apply evOps_yes; (case hg => rfl); (case hb => (simp [gval, dstB, e9, e10, o9, o10, lpName, decL_enc, decL, htk, htk2, htk3, hm1, h29, sp29, List.filter_cons, mergeX_nil, o38, hne, h60]; done)); (case h => (simp [evStep, evPure, e9, e10, o9, o10, lpName, decL_enc, decL, htk, htk2, htk3, hm1, h29, sp29, List.filter_cons, mergeX_nil, o38, hne, h60]; with_reducible rfl)); skip)
 | (apply evOps_no; (case hg => rfl); (case hb => (simp [gval, dstB, e9, e10, o9, o10, lpName, decL_enc, decL, htk, htk2, htk3, hm1, h29, sp29, List.filter_cons, mergeX_nil, o38, hne, h60]; with_reducible rfl)); (case hne => (simp; done)); (case hd => (simp [dstB]; done)); skip)
 | (apply evOps_big; (case hg => rfl); (case hd => (simp [dstB]; done)); (case hb => (simp [evBig, evStep, evPure, e9, e10, o9, o10, lpName, decL_enc, decL, htk, htk2, htk3, hm1, h29, sp29, List.filter_cons, mergeX_nil, o38, hne, h60]; with_reducible rfl)); skip)
 | (apply evOps_bigYes; (case hg => rfl); (case hgv => (simp [gval, dstB, e9, e10, o9, o10, lpName, decL_enc, decL, htk, htk2, htk3, hm1, h29, sp29, List.filter_cons, mergeX_nil, o38, hne, h60]; done)); (case hd => (simp [dstB]; done)); (case hb => (simp [evBig, evStep, evPure, e9, e10, o9, o10, lpName, decL_enc, decL, htk, htk2, htk3, hm1, h29, sp29, List.filter_cons, mergeX_nil, o38, hne, h60]; with_reducible rfl)); skip)
 | (apply evOps_split; (case _hg => rfl); (case _ht => rfl); (case hb => (simp [dstB]; with_reducible rfl)); (case hv => ((fail_if_success (with_reducible exact (rfl : (_ : AV) = AV.d (.val (.bool true)) _))); (fail_if_success (with_reducible exact (rfl : (_ : AV) = AV.d (.val (.bool false)) _))); rfl)); skip)
 | (apply WP_cond; (case hx => (simp [St.eval, dstB, e9, e10, o9, o10, lpName, decL_enc, decL, htk, htk2, htk3, hm1, h29, sp29, List.filter_cons, mergeX_nil, o38, hne, h60]; with_reducible rfl)); (case hv => rfl); skip))
            all_goals simp [Fin1, resVals, ownOf, FinList1, FinOne1, FinWr1, nodupB, Try.results10, out10, outSl, hr, hm, hs, htk, htk2, htk3, mergeX_nil, hne, hne2, hs0, h60, evStep, evPure]
          · repeat' (first
 | (intro h; first | (exfalso; exact Bool.noConfusion h) | (simp only [decide_eq_true_eq, decide_eq_false_iff_not] at h) | skip)
 | (apply evOps_fin; (case hf => (simp only [finGo, app1]; rfl)); skip)
 | refine WP_seq ?_
 | refine WP_scope ?_
 | refine WP_block ?_
 | refine WP_ret ?_
 | refine WP_skip ?_
 | refine WP_exit ?_
 | (apply WP_region; (case hl => rfl); (case hc => (simp only [put_env', put_own', put_ctr', put_none', setOwn_env', setOwn_own', setOwn_ctr', setCtr_env', setCtr_own', setCtr_ctr', entry, entryEnv, entryOwn, inAV, scAV, inOB]; rfl)); (case hc' => (conv => lhs; simp only [List.size_toArray, List.length_cons, List.length_nil, Nat.zero_add, Nat.reduceAdd, Nat.add_assoc])); skip)
 | (apply WP_draw; (case hl => rfl); (case hds => (simp only [List.map_cons, List.map_nil]; rfl)); (case hc => (simp only [put_env', put_own', put_ctr', put_none', setOwn_env', setOwn_own', setOwn_ctr', setCtr_env', setCtr_own', setCtr_ctr', entry, entryEnv, entryOwn, inAV, scAV, inOB]; rfl)); (case hc' => (conv => lhs; simp only [List.size_toArray, List.length_cons, List.length_nil, Nat.zero_add, Nat.reduceAdd, Nat.add_assoc])); (case hD => rfl); (case hb => kernel_rfl); (case h1 => (simp only [List.take_succ_cons, List.take_zero]; rfl)); (case h2 => (simp only [List.drop_succ_cons, List.drop_zero]; rfl)); (case h3 => (simp only [List.take_succ_cons, List.take_zero]; rfl)); intro had; skip)
 | refine evOps_nil ?_
 | refine evQ_nil ?_
 | (apply evQ_one; (case had => assumption); (case hg => rfl); (case hd => (simp [dstB]; done)); (case h => (simp [evQuiet, evCallQ, known, njk, AV.isJunk, Op.operands, Call.operands, evEff, evStep, evPure, e9, e10, o9, o10, lpName, decL_enc, decL, htk, htk2, htk3, hm1, h29, sp29, List.filter_cons, mergeX_nil, o38, hne, h60]; with_reducible rfl)); (case hs => (simp; done)); (case hR => (simp only [List.nil_append, List.cons_append]; rfl)); skip)
 | (apply evQ_yes; (case had => assumption); (case hg => rfl); (case hb => (simp [gval, evEff, dstB, e9, e10, o9, o10, lpName, decL_enc, decL, htk, htk2, htk3, hm1, h29, sp29, List.filter_cons, mergeX_nil, o38, hne, h60]; done)); (case hd => (simp [dstB]; done)); (case h => (simp [evQuiet, evCallQ, known, njk, AV.isJunk, Op.operands, Call.operands, evEff, evStep, evPure, e9, e10, o9, o10, lpName, decL_enc, decL, htk, htk2, htk3, hm1, h29, sp29, List.filter_cons, mergeX_nil, o38, hne, h60]; with_reducible rfl)); (case hs => (simp; done)); (case hR => (simp only [List.nil_append, List.cons_append]; rfl)); skip)
 | (apply evQ_no; (case had => assumption); (case hg => rfl); (case hb => (simp [gval, evEff, dstB, e9, e10, o9, o10, lpName, decL_enc, decL, htk, htk2, htk3, hm1, h29, sp29, List.filter_cons, mergeX_nil, o38, hne, h60]; with_reducible rfl)); (case hne => (simp; done)); (case hd => (simp [dstB]; done)); (case hR => (simp only [List.nil_append, List.cons_append]; rfl)); skip)
 | (apply evQ_split; (case hg => rfl); (case hb => (simp only [List.getElem?_cons_succ, List.getElem?_cons_zero]; rfl)); (case hv => ((fail_if_success (with_reducible exact (rfl : (_ : QR) = (AV.d (.val (.bool true)) _, none)))); (fail_if_success (with_reducible exact (rfl : (_ : QR) = (AV.d (.val (.bool false)) _, none)))); rfl)); (case hT => (simp only [List.set_cons_succ, List.set_cons_zero]; rfl)); (case hF => (simp only [List.set_cons_succ, List.set_cons_zero]; rfl)); skip)
 | (apply evOps_one; (case hg => rfl); (case h => (simp [evStep, evPure, e9, e10, o9, o10, lpName, decL_enc, decL, htk, htk2, htk3, hm1, h29, sp29, List.filter_cons, mergeX_nil, o38, hne, h60]; with_reducible rfl)); skip)
 | (apply evOps_yes; (case hg => rfl); (case hb => (simp [gval, dstB, e9, e10, o9, o10, lpName, decL_enc, decL, htk, htk2, htk3, hm1, h29, sp29, List.filter_cons, mergeX_nil, o38, hne, h60]; done)); (case h => (simp [evStep, evPure, e9, e10, o9, o10, lpName, decL_enc, decL, htk, htk2, htk3, hm1, h29, sp29, List.filter_cons, mergeX_nil, o38, hne, h60]; with_reducible rfl)); skip)
 | (apply evOps_no; (case hg => rfl); (case hb => (simp [gval, dstB, e9, e10, o9, o10, lpName, decL_enc, decL, htk, htk2, htk3, hm1, h29, sp29, List.filter_cons, mergeX_nil, o38, hne, h60]; with_reducible rfl)); (case hne => (simp; done)); (case hd => (simp [dstB]; done)); skip)
 | (apply evOps_big; (case hg => rfl); (case hd => (simp [dstB]; done)); (case hb => (simp [evBig, evStep, evPure, e9, e10, o9, o10, lpName, decL_enc, decL, htk, htk2, htk3, hm1, h29, sp29, List.filter_cons, mergeX_nil, o38, hne, h60]; with_reducible rfl)); skip)
 | (apply evOps_bigYes; (case hg => rfl); (case hgv => (simp [gval, dstB, e9, e10, o9, o10, lpName, decL_enc, decL, htk, htk2, htk3, hm1, h29, sp29, List.filter_cons, mergeX_nil, o38, hne, h60]; done)); (case hd => (simp [dstB]; done)); (case hb => (simp [evBig, evStep, evPure, e9, e10, o9, o10, lpName, decL_enc, decL, htk, htk2, htk3, hm1, h29, sp29, List.filter_cons, mergeX_nil, o38, hne, h60]; with_reducible rfl)); skip)
 | (apply evOps_split; (case _hg => rfl); (case _ht => rfl); (case hb => (simp [dstB]; with_reducible rfl)); (case hv => ((fail_if_success (with_reducible exact (rfl : (_ : AV) = AV.d (.val (.bool true)) _))); (fail_if_success (with_reducible exact (rfl : (_ : AV) = AV.d (.val (.bool false)) _))); rfl)); skip)
 | (apply WP_cond; (case hx => (simp [St.eval, dstB, e9, e10, o9, o10, lpName, decL_enc, decL, htk, htk2, htk3, hm1, h29, sp29, List.filter_cons, mergeX_nil, o38, hne, h60]; with_reducible rfl)); (case hv => rfl); skip))
            all_goals simp [Fin1, resVals, ownOf, FinList1, FinOne1, FinWr1, nodupB, Try.results10, out10, outSl, hr, hm, hs, htk, htk2, htk3, mergeX_nil, hne, hne2, hs0, h60, evStep, evPure]
        · by_cases h60 : (mergeX m).length > 60
          · repeat' (first
 | (intro h; first | (exfalso; exact Bool.noConfusion h) | (simp only [decide_eq_true_eq, decide_eq_false_iff_not] at h) | skip)
 | (apply evOps_fin; (case hf => (simp only [finGo, app1]; rfl)); skip)
 | refine WP_seq ?_
 | refine WP_scope ?_
 | refine WP_block ?_
 | refine WP_ret ?_
 | refine WP_skip ?_
 | refine WP_exit ?_
 | (apply WP_region; (case hl => rfl); (case hc => (simp only [put_env', put_own', put_ctr', put_none', setOwn_env', setOwn_own', setOwn_ctr', setCtr_env', setCtr_own', setCtr_ctr', entry, entryEnv, entryOwn, inAV, scAV, inOB]; rfl)); (case hc' => (conv => lhs; simp only [List.size_toArray, List.length_cons, List.length_nil, Nat.zero_add, Nat.reduceAdd, Nat.add_assoc])); skip)
 | (apply WP_draw; (case hl => rfl); (case hds => (simp only [List.map_cons, List.map_nil]; rfl)); (case hc => (simp only [put_env', put_own', put_ctr', put_none', setOwn_env', setOwn_own', setOwn_ctr', setCtr_env', setCtr_own', setCtr_ctr', entry, entryEnv, entryOwn, inAV, scAV, inOB]; rfl)); (case hc' => (conv => lhs; simp only [List.size_toArray, List.length_cons, List.length_nil, Nat.zero_add, Nat.reduceAdd, Nat.add_assoc])); (case hD => rfl); (case hb => kernel_rfl); (case h1 => (simp only [List.take_succ_cons, List.take_zero]; rfl)); (case h2 => (simp only [List.drop_succ_cons, List.drop_zero]; rfl)); (case h3 => (simp only [List.take_succ_cons, List.take_zero]; rfl)); intro had; skip)
 | refine evOps_nil ?_
 | refine evQ_nil ?_
 | (apply evQ_one; (case had => assumption); (case hg => rfl); (case hd => (simp [dstB]; done)); (case h => (simp [evQuiet, evCallQ, known, njk, AV.isJunk, Op.operands, Call.operands, evEff, evStep, evPure, e9, e10, o9, o10, lpName, decL_enc, decL, htk, htk2, htk3, hm1, h29, sp29, List.filter_cons, mergeX_nil, o38, hne, h60]; with_reducible rfl)); (case hs => (simp; done)); (case hR => (simp only [List.nil_append, List.cons_append]; rfl)); skip)
 | (apply evQ_yes; (case had => assumption); (case hg => rfl); (case hb => (simp [gval, evEff, dstB, e9, e10, o9, o10, lpName, decL_enc, decL, htk, htk2, htk3, hm1, h29, sp29, List.filter_cons, mergeX_nil, o38, hne, h60]; done)); (case hd => (simp [dstB]; done)); (case h => (simp [evQuiet, evCallQ, known, njk, AV.isJunk, Op.operands, Call.operands, evEff, evStep, evPure, e9, e10, o9, o10, lpName, decL_enc, decL, htk, htk2, htk3, hm1, h29, sp29, List.filter_cons, mergeX_nil, o38, hne, h60]; with_reducible rfl)); (case hs => (simp; done)); (case hR => (simp only [List.nil_append, List.cons_append]; rfl)); skip)
 | (apply evQ_no; (case had => assumption); (case hg => rfl); (case hb => (simp [gval, evEff, dstB, e9, e10, o9, o10, lpName, decL_enc, decL, htk, htk2, htk3, hm1, h29, sp29, List.filter_cons, mergeX_nil, o38, hne, h60]; with_reducible rfl)); (case hne => (simp; done)); (case hd => (simp [dstB]; done)); (case hR => (simp only [List.nil_append, List.cons_append]; rfl)); skip)
 | (apply evQ_split; (case hg => rfl); (case hb => (simp only [List.getElem?_cons_succ, List.getElem?_cons_zero]; rfl)); (case hv => ((fail_if_success (with_reducible exact (rfl : (_ : QR) = (AV.d (.val (.bool true)) _, none)))); (fail_if_success (with_reducible exact (rfl : (_ : QR) = (AV.d (.val (.bool false)) _, none)))); rfl)); (case hT => (simp only [List.set_cons_succ, List.set_cons_zero]; rfl)); (case hF => (simp only [List.set_cons_succ, List.set_cons_zero]; rfl)); skip)
 | (apply evOps_one; (case hg => rfl); (case h => (simp [evStep, evPure, e9, e10, o9, o10, lpName, decL_enc, decL, htk, htk2, htk3, hm1, h29, sp29, List.filter_cons, mergeX_nil, o38, hne, h60]; with_reducible rfl)); skip)
 | (apply evOps_yes; (case hg => rfl); (case hb => (simp [gval, dstB, e9, e10, o9, o10, lpName, decL_enc, decL, htk, htk2, htk3, hm1, h29, sp29, List.filter_cons, mergeX_nil, o38, hne, h60]; done)); (case h => (simp [evStep, evPure, e9, e10, o9, o10, lpName, decL_enc, decL, htk, htk2, htk3, hm1, h29, sp29, List.filter_cons, mergeX_nil, o38, hne, h60]; with_reducible rfl)); skip)
 | (apply evOps_no; (case hg => rfl); (case hb => (simp [gval, dstB, e9, e10, o9, o10, lpName, decL_enc, decL, htk, htk2, htk3, hm1, h29, sp29, List.filter_cons, mergeX_nil, o38, hne, h60]; with_reducible rfl)); (case hne => (simp; done)); (case hd => (simp [dstB]; done)); skip)
 | (apply evOps_big; (case hg => rfl); (case hd => (simp [dstB]; done)); (case hb => (simp [evBig, evStep, evPure, e9, e10, o9, o10, lpName, decL_enc, decL, htk, htk2, htk3, hm1, h29, sp29, List.filter_cons, mergeX_nil, o38, hne, h60]; with_reducible rfl)); skip)
 | (apply evOps_bigYes; (case hg => rfl); (case hgv => (simp [gval, dstB, e9, e10, o9, o10, lpName, decL_enc, decL, htk, htk2, htk3, hm1, h29, sp29, List.filter_cons, mergeX_nil, o38, hne, h60]; done)); (case hd => (simp [dstB]; done)); (case hb => (simp [evBig, evStep, evPure, e9, e10, o9, o10, lpName, decL_enc, decL, htk, htk2, htk3, hm1, h29, sp29, List.filter_cons, mergeX_nil, o38, hne, h60]; with_reducible rfl)); skip)
 | (apply evOps_split; (case _hg => rfl); (case _ht => rfl); (case hb => (simp [dstB]; with_reducible rfl)); (case hv => ((fail_if_success (with_reducible exact (rfl : (_ : AV) = AV.d (.val (.bool true)) _))); (fail_if_success (with_reducible exact (rfl : (_ : AV) = AV.d (.val (.bool false)) _))); rfl)); skip)
 | (apply WP_cond; (case hx => (simp [St.eval, dstB, e9, e10, o9, o10, lpName, decL_enc, decL, htk, htk2, htk3, hm1, h29, sp29, List.filter_cons, mergeX_nil, o38, hne, h60]; with_reducible rfl)); (case hv => rfl); skip))
            all_goals simp [Fin1, resVals, ownOf, FinList1, FinOne1, FinWr1, nodupB, Try.results10, out10, outSl, hr, hm, hs, htk, htk2, htk3, mergeX_nil, hne, hne2, o34, hs0, h60, evStep, evPure]
          · repeat' (first
 | (intro h; first | (exfalso; exact Bool.noConfusion h) | (simp only [decide_eq_true_eq, decide_eq_false_iff_not] at h) | skip)
 | (apply evOps_fin; (case hf => (simp only [finGo, app1]; rfl)); skip)
 | refine WP_seq ?_
 | refine WP_scope ?_
 | refine WP_block ?_
 | refine WP_ret ?_
 | refine WP_skip ?_
 | refine WP_exit ?_
 | (apply WP_region; (case hl => rfl); (case hc => (simp only [put_env', put_own', put_ctr', put_none', setOwn_env', setOwn_own', setOwn_ctr', setCtr_env', setCtr_own', setCtr_ctr', entry, entryEnv, entryOwn, inAV, scAV, inOB]; rfl)); (case hc' => (conv => lhs; simp only [List.size_toArray, List.length_cons, List.length_nil, Nat.zero_add, Nat.reduceAdd, Nat.add_assoc])); skip)
 | (apply WP_draw; (case hl => rfl); (case hds => (simp only [List.map_cons, List.map_nil]; rfl)); (case hc => (simp only [put_env', put_own', put_ctr', put_none', setOwn_env', setOwn_own', setOwn_ctr', setCtr_env', setCtr_own', setCtr_ctr', entry, entryEnv, entryOwn, inAV, scAV, inOB]; rfl)); (case hc' => (conv => lhs; simp only [List.size_toArray, List.length_cons, List.length_nil, Nat.zero_add, Nat.reduceAdd, Nat.add_assoc])); (case hD => rfl); (case hb => kernel_rfl); (case h1 => (simp only [List.take_succ_cons, List.take_zero]; rfl)); (case h2 => (simp only [List.drop_succ_cons, List.drop_zero]; rfl)); (case h3 => (simp only [List.take_succ_cons, List.take_zero]; rfl)); intro had; skip)
 | refine evOps_nil ?_
 | refine evQ_nil ?_
 | (apply evQ_one; (case had => assumption); (case hg => rfl); (case hd => (simp [dstB]; done)); (case h => (simp [evQuiet, evCallQ, known, njk, AV.isJunk, Op.operands, Call.operands, evEff, evStep, evPure, e9, e10, o9, o10, lpName, decL_enc, decL, htk, htk2, htk3, hm1, h29, sp29, List.filter_cons, mergeX_nil, o38, hne, h60]; with_reducible rfl)); (case hs => (simp; done)); (case hR => (simp only [List.nil_append, List.cons_append]; rfl)); skip)
 | (apply evQ_yes; (case had => assumption); (case hg => rfl); (case hb => (simp [gval, evEff, dstB, e9, e10, o9, o10, lpName, decL_enc, decL, htk, htk2, htk3, hm1, h29, sp29, List.filter_cons, mergeX_nil, o38, hne, h60]; done)); (case hd => (simp [dstB]; done)); (case h => (simp [evQuiet, evCallQ, known, njk, AV.isJunk, Op.operands, Call.operands, evEff, evStep, evPure, e9, e10, o9, o10, lpName, decL_enc, decL, htk, htk2, htk3, hm1, h29, sp29, List.filter_cons, mergeX_nil, o38, hne, h60]; with_reducible rfl)); (case hs => (simp; done)); (case hR => (simp only [List.nil_append, List.cons_append]; rfl)); skip)
 | (apply evQ_no; (case had => assumption); (case hg => rfl); (case hb => (simp [gval, evEff, dstB, e9, e10, o9, o10, lpName, decL_enc, decL, htk, htk2, htk3, hm1, h29, sp29, List.filter_cons, mergeX_nil, o38, hne, h60]; with_reducible rfl)); (case hne => (simp; done)); (case hd => (simp [dstB]; done)); (case hR => (simp only [List.nil_append, List.cons_append]; rfl)); skip)
 | (apply evQ_split; (case hg => rfl); (case hb => (simp only [List.getElem?_cons_succ, List.getElem?_cons_zero]; rfl)); (case hv => ((fail_if_success (with_reducible exact (rfl : (_ : QR) = (AV.d (.val (.bool true)) _, none)))); (fail_if_success (with_reducible exact (rfl : (_ : QR) = (AV.d (.val (.bool false)) _, none)))); rfl)); (case hT => (simp only [List.set_cons_succ, List.set_cons_zero]; rfl)); (case hF => (simp only [List.set_cons_succ, List.set_cons_zero]; rfl)); skip)
 | (apply evOps_one; (case hg => rfl); (case h => (simp [evStep, evPure, e9, e10, o9, o10, lpName, decL_enc, decL, htk, htk2, htk3, hm1, h29, sp29, List.filter_cons, mergeX_nil, o38, hne, h60]; with_reducible rfl)); skip)
 | (apply evOps_yes; (case hg => rfl); (case hb => (simp [gval, dstB, e9, e10, o9, o10, lpName, decL_enc, decL, htk, htk2, htk3, hm1, h29, sp29, List.filter_cons, mergeX_nil, o38, hne, h60]; done)); (case h => (simp [evStep, evPure, e9, e10, o9, o10, lpName, decL_enc, decL, htk, htk2, htk3, hm1, h29, sp29, List.filter_cons, mergeX_nil, o38, hne, h60]; with_reducible rfl)); skip)
 | (apply evOps_no; (case hg => rfl); (case hb => (simp [gval, dstB, e9, e10, o9, o10, lpName, decL_enc, decL, htk, htk2, htk3, hm1, h29, sp29, List.filter_cons, mergeX_nil, o38, hne, h60]; with_reducible rfl)); (case hne => (simp; done)); (case hd => (simp [dstB]; done)); skip)
 | (apply evOps_big; (case hg => rfl); (case hd => (simp [dstB]; done)); (case hb => (simp [evBig, evStep, evPure, e9, e10, o9, o10, lpName, decL_enc, decL, htk, htk2, htk3, hm1, h29, sp29, List.filter_cons, mergeX_nil, o38, hne, h60]; with_reducible rfl)); skip)
 | (apply evOps_bigYes; (case hg => rfl); (case hgv => (simp [gval, dstB, e9, e10, o9, o10, lpName, decL_enc, decL, htk, htk2, htk3, hm1, h29, sp29, List.filter_cons, mergeX_nil, o38, hne, h60]; done)); (case hd => (simp [dstB]; done)); (case hb => (simp [evBig, evStep, evPure, e9, e10, o9, o10, lpName, decL_enc, decL, htk, htk2, htk3, hm1, h29, sp29, List.filter_cons, mergeX_nil, o38, hne, h60]; with_reducible rfl)); skip)
 | (apply evOps_split; (case _hg => rfl); (case _ht => rfl); (case hb => (simp [dstB]; with_reducible rfl)); (case hv => ((fail_if_success (with_reducible exact (rfl : (_ : AV) = AV.d (.val (.bool true)) _))); (fail_if_success (with_reducible exact (rfl : (_ : AV) = AV.d (.val (.bool false)) _))); rfl)); skip)
 | (apply WP_cond; (case hx => (simp [St.eval, dstB, e9, e10, o9, o10, lpName, decL_enc, decL, htk, htk2, htk3, hm1, h29, sp29, List.filter_cons, mergeX_nil, o38, hne, h60]; with_reducible rfl)); (case hv => rfl); skip))
            all_goals simp [Fin1, resVals, ownOf, FinList1, FinOne1, FinWr1, nodupB, Try.results10, out10, outSl, hr, hm, hs, htk, htk2, htk3, mergeX_nil, hne, hne2, o34, hs0, h60, evStep, evPure]
    case hY =>
      intro d pc rest σi K' heq hinv hk
      obtain ⟨x, b⟩ := pc
      obtain ⟨o999, ⟨b3, b4, b5⟩, ⟨v9, o9, hv9⟩, ⟨v10, o10, hv10⟩⟩ := hinv
      have hdl : d.length + 1 ≤ 180 := by
        have h1 := piecesX_len p q l
        rw [heq] at h1
        simp only [List.length_append, List.length_cons] at h1
        omega
      have hll := leftX_len d
      have hsl := spanX_len d
      refine ⟨rfl, rfl, rfl, o999, ?_⟩
      cases b
      · rcases hv9 with ⟨hL, rfl⟩ | ⟨hL, g, fr, rfl, o38⟩
        · have hb1 : True := trivial
          have hb2 : True := trivial
          repeat' (first
 | (intro h; first | (exfalso; exact Bool.noConfusion h) | (simp only [decide_eq_true_eq, decide_eq_false_iff_not] at h) | skip)
 | (apply evOps_fin; (case hf => (simp only [finGo, app1]; rfl)); skip)
 | refine WP_seq ?_
 | refine WP_scope ?_
 | refine WP_block ?_
 | refine WP_ret ?_
 | refine WP_skip ?_
 | refine WP_exit ?_
 | (apply WP_region; (case hl => rfl); (case hc => (simp only [put_env', put_own', put_ctr', put_none', setOwn_env', setOwn_own', setOwn_ctr', setCtr_env', setCtr_own', setCtr_ctr', entry, entryEnv, entryOwn, inAV, scAV, inOB]; rfl)); (case hc' => (conv => lhs; simp only [List.size_toArray, List.length_cons, List.length_nil, Nat.zero_add, Nat.reduceAdd, Nat.add_assoc])); skip)
 | (apply WP_draw; (case hl => rfl); (case hds => (simp only [List.map_cons, List.map_nil]; rfl)); (case hc => (simp only [put_env', put_own', put_ctr', put_none', setOwn_env', setOwn_own', setOwn_ctr', setCtr_env', setCtr_own', setCtr_ctr', entry, entryEnv, entryOwn, inAV, scAV, inOB]; rfl)); (case hc' => (conv => lhs; simp only [List.size_toArray, List.length_cons, List.length_nil, Nat.zero_add, Nat.reduceAdd, Nat.add_assoc])); (case hD => rfl); (case hb => kernel_rfl); (case h1 => (simp only [List.take_succ_cons, List.take_zero]; rfl)); (case h2 => (simp only [List.drop_succ_cons, List.drop_zero]; rfl)); (case h3 => (simp only [List.take_succ_cons, List.take_zero]; rfl)); intro had; skip)
 | refine evOps_nil ?_
 | refine evQ_nil ?_
 | (apply evQ_one; (case had => assumption); (case hg => rfl); (case hd => (simp [dstB]; done)); (case h => (simp [evQuiet, evCallQ, known, njk, AV.isJunk, Op.operands, Call.operands, evEff, evStep, evPure, o999, b3, b4, b5, o9, o10, putParams, lpName, lpOB, Xt.enc, hL, hb1, hb2]; with_reducible rfl)); (case hs => (simp; done)); (case hR => (simp only [List.nil_append, List.cons_append]; rfl)); skip)
 | (apply evQ_yes; (case had => assumption); (case hg => rfl); (case hb => (simp [gval, evEff, dstB, o999, b3, b4, b5, o9, o10, putParams, lpName, lpOB, Xt.enc, hL, hb1, hb2]; done)); (case hd => (simp [dstB]; done)); (case h => (simp [evQuiet, evCallQ, known, njk, AV.isJunk, Op.operands, Call.operands, evEff, evStep, evPure, o999, b3, b4, b5, o9, o10, putParams, lpName, lpOB, Xt.enc, hL, hb1, hb2]; with_reducible rfl)); (case hs => (simp; done)); (case hR => (simp only [List.nil_append, List.cons_append]; rfl)); skip)
 | (apply evQ_no; (case had => assumption); (case hg => rfl); (case hb => (simp [gval, evEff, dstB, o999, b3, b4, b5, o9, o10, putParams, lpName, lpOB, Xt.enc, hL, hb1, hb2]; with_reducible rfl)); (case hne => (simp; done)); (case hd => (simp [dstB]; done)); (case hR => (simp only [List.nil_append, List.cons_append]; rfl)); skip)
 | (apply evQ_split; (case hg => rfl); (case hb => (simp only [List.getElem?_cons_succ, List.getElem?_cons_zero]; rfl)); (case hv => ((fail_if_success (with_reducible exact (rfl : (_ : QR) = (AV.d (.val (.bool true)) _, none)))); (fail_if_success (with_reducible exact (rfl : (_ : QR) = (AV.d (.val (.bool false)) _, none)))); rfl)); (case hT => (simp only [List.set_cons_succ, List.set_cons_zero]; rfl)); (case hF => (simp only [List.set_cons_succ, List.set_cons_zero]; rfl)); skip)
 | (apply evOps_one; (case hg => rfl); (case h => (simp [evStep, evPure, o999, b3, b4, b5, o9, o10, putParams, lpName, lpOB, Xt.enc, hL, hb1, hb2]; with_reducible rfl)); skip)
 | (apply evOps_yes; (case hg => rfl); (case hb => (simp [gval, dstB, o999, b3, b4, b5, o9, o10, putParams, lpName, lpOB, Xt.enc, hL, hb1, hb2]; done)); (case h => (simp [evStep, evPure, o999, b3, b4, b5, o9, o10, putParams, lpName, lpOB, Xt.enc, hL, hb1, hb2]; with_reducible rfl)); skip)
 | (apply evOps_no; (case hg => rfl); (case hb => (simp [gval, dstB, o999, b3, b4, b5, o9, o10, putParams, lpName, lpOB, Xt.enc, hL, hb1, hb2]; with_reducible rfl)); (case hne => (simp; done)); (case hd => (simp [dstB]; done)); skip)
 | (apply evOps_big; (case hg => rfl); (case hd => (simp [dstB]; done)); (case hb => (simp [evBig, evStep, evPure, o999, b3, b4, b5, o9, o10, putParams, lpName, lpOB, Xt.enc, hL, hb1, hb2]; with_reducible rfl)); skip)
 | (apply evOps_bigYes; (case hg => rfl); (case hgv => (simp [gval, dstB, o999, b3, b4, b5, o9, o10, putParams, lpName, lpOB, Xt.enc, hL, hb1, hb2]; done)); (case hd => (simp [dstB]; done)); (case hb => (simp [evBig, evStep, evPure, o999, b3, b4, b5, o9, o10, putParams, lpName, lpOB, Xt.enc, hL, hb1, hb2]; with_reducible rfl)); skip)
 | (apply evOps_split; (case _hg => rfl); (case _ht => rfl); (case hb => (simp [dstB]; with_reducible rfl)); (case hv => ((fail_if_success (with_reducible exact (rfl : (_ : AV) = AV.d (.val (.bool true)) _))); (fail_if_success (with_reducible exact (rfl : (_ : AV) = AV.d (.val (.bool false)) _))); rfl)); skip)
 | (apply WP_cond; (case hx => (simp [St.eval, dstB, o999, b3, b4, b5, o9, o10, putParams, lpName, lpOB, Xt.enc, hL, hb1, hb2]; with_reducible rfl)); (case hv => rfl); skip))
          refine ⟨rfl, ?_, ?_⟩
          · simp [dstB, o999, lpName]
          repeat' (first
 | (intro h; first | (exfalso; exact Bool.noConfusion h) | (simp only [decide_eq_true_eq, decide_eq_false_iff_not] at h) | skip)
 | (apply evOps_fin; (case hf => (simp only [finGo, app1]; rfl)); skip)
 | refine WP_seq ?_
 | refine WP_scope ?_
 | refine WP_block ?_
 | refine WP_ret ?_
 | refine WP_skip ?_
 | refine WP_exit ?_
 | (apply WP_region; (case hl => rfl); (case hc => (simp only [put_env', put_own', put_ctr', put_none', setOwn_env', setOwn_own', setOwn_ctr', setCtr_env', setCtr_own', setCtr_ctr', entry, entryEnv, entryOwn, inAV, scAV, inOB]; rfl)); (case hc' => (conv => lhs; simp only [List.size_toArray, List.length_cons, List.length_nil, Nat.zero_add, Nat.reduceAdd, Nat.add_assoc])); skip)
 | (apply WP_draw; (case hl => rfl); (case hds => (simp only [List.map_cons, List.map_nil]; rfl)); (case hc => (simp only [put_env', put_own', put_ctr', put_none', setOwn_env', setOwn_own', setOwn_ctr', setCtr_env', setCtr_own', setCtr_ctr', entry, entryEnv, entryOwn, inAV, scAV, inOB]; rfl)); (case hc' => (conv => lhs; simp only [List.size_toArray, List.length_cons, List.length_nil, Nat.zero_add, Nat.reduceAdd, Nat.add_assoc])); (case hD => rfl); (case hb => kernel_rfl); (case h1 => (simp only [List.take_succ_cons, List.take_zero]; rfl)); (case h2 => (simp only [List.drop_succ_cons, List.drop_zero]; rfl)); (case h3 => (simp only [List.take_succ_cons, List.take_zero]; rfl)); intro had; skip)
 | refine evOps_nil ?_
 | refine evQ_nil ?_
 | (apply evQ_one; (case had => assumption); (case hg => rfl); (case hd => (simp [dstB]; done)); (case h => (simp [evQuiet, evCallQ, known, njk, AV.isJunk, Op.operands, Call.operands, evEff, evStep, evPure, o999, b3, b4, b5, o9, o10, putParams, lpName, lpOB, Xt.enc, hL, hb1, hb2]; with_reducible rfl)); (case hs => (simp; done)); (case hR => (simp only [List.nil_append, List.cons_append]; rfl)); skip)
 | (apply evQ_yes; (case had => assumption); (case hg => rfl); (case hb => (simp [gval, evEff, dstB, o999, b3, b4, b5, o9, o10, putParams, lpName, lpOB, Xt.enc, hL, hb1, hb2]; done)); (case hd => (simp [dstB]; done)); (case h => (simp [evQuiet, evCallQ, known, njk, AV.isJunk, Op.operands, Call.operands, evEff, evStep, evPure, o999, b3, b4, b5, o9, o10, putParams, lpName, lpOB, Xt.enc, hL, hb1, hb2]; with_reducible rfl)); (case hs => (simp; done)); (case hR => (simp only [List.nil_append, List.cons_append]; rfl)); skip)
 | (apply evQ_no; (case had => assumption); (case hg => rfl); (case hb => (simp [gval, evEff, dstB, o999, b3, b4, b5, o9, o10, putParams, lpName, lpOB, Xt.enc, hL, hb1, hb2]; with_reducible rfl)); (case hne => (simp; done)); (case hd => (simp [dstB]; done)); (case hR => (simp only [List.nil_append, List.cons_append]; rfl)); skip)
 | (apply evQ_split; (case hg => rfl); (case hb => (simp only [List.getElem?_cons_succ, List.getElem?_cons_zero]; rfl)); (case hv => ((fail_if_success (with_reducible exact (rfl : (_ : QR) = (AV.d (.val (.bool true)) _, none)))); (fail_if_success (with_reducible exact (rfl : (_ : QR) = (AV.d (.val (.bool false)) _, none)))); rfl)); (case hT => (simp only [List.set_cons_succ, List.set_cons_zero]; rfl)); (case hF => (simp only [List.set_cons_succ, List.set_cons_zero]; rfl)); skip)
 | (apply evOps_one; (case hg => rfl); (case h => (simp [evStep, evPure, o999, b3, b4, b5, o9, o10, putParams, lpName, lpOB, Xt.enc, hL, hb1, hb2]; with_reducible rfl)); skip)
 | (apply evOps_yes; (case hg => rfl); (case hb => (simp [gval, dstB, o999, b3, b4, b5, o9, o10, putParams, lpName, lpOB, Xt.enc, hL, hb1, hb2]; done)); (case h => (simp [evStep, evPure, o999, b3, b4, b5, o9, o10, putParams, lpName, lpOB, Xt.enc, hL, hb1, hb2]; with_reducible rfl)); skip)
 | (apply evOps_no; (case hg => rfl); (case hb => (simp [gval, dstB, o999, b3, b4, b5, o9, o10, putParams, lpName, lpOB, Xt.enc, hL, hb1, hb2]; with_reducible rfl)); (case hne => (simp; done)); (case hd => (simp [dstB]; done)); skip)
 | (apply evOps_big; (case hg => rfl); (case hd => (simp [dstB]; done)); (case hb => (simp [evBig, evStep, evPure, o999, b3, b4, b5, o9, o10, putParams, lpName, lpOB, Xt.enc, hL, hb1, hb2]; with_reducible rfl)); skip)
 | (apply evOps_bigYes; (case hg => rfl); (case hgv => (simp [gval, dstB, o999, b3, b4, b5, o9, o10, putParams, lpName, lpOB, Xt.enc, hL, hb1, hb2]; done)); (case hd => (simp [dstB]; done)); (case hb => (simp [evBig, evStep, evPure, o999, b3, b4, b5, o9, o10, putParams, lpName, lpOB, Xt.enc, hL, hb1, hb2]; with_reducible rfl)); skip)
 | (apply evOps_split; (case _hg => rfl); (case _ht => rfl); (case hb => (simp [dstB]; with_reducible rfl)); (case hv => ((fail_if_success (with_reducible exact (rfl : (_ : AV) = AV.d (.val (.bool true)) _))); (fail_if_success (with_reducible exact (rfl : (_ : AV) = AV.d (.val (.bool false)) _))); rfl)); skip)
 | (apply WP_cond; (case hx => (simp [St.eval, dstB, o999, b3, b4, b5, o9, o10, putParams, lpName, lpOB, Xt.enc, hL, hb1, hb2]; with_reducible rfl)); (case hv => rfl); skip))
          refine ⟨by simp [dstB, lpName, lpOB], ?_⟩
          refine hk _ rfl ?_ ?_ ?_
          · simp [dstB]; try omega
          · intro y hy
            have q1 : ¬ y = 9 := by omega
            have q2 : ¬ y = 10 := by omega
            have q3 : ¬ y = 11 := by omega
            have q4 : ¬ y = 33 := by omega
            have q5 : ¬ y = 34 := by omega
            have q6 : ¬ y = 37 := by omega
            have q7 : ¬ y = 38 := by omega
            have q8 : ¬ y = 999 := by omega
            simp [dstB, lpName, q1, q2, q3, q4, q5, q6, q7, q8]
          · refine ⟨by simp [dstB, lpName, lpOB], ⟨by simp [dstB, lpName, b3], by simp [dstB, lpName, b4], by simp [dstB, lpName, b5]⟩, ⟨.rs 38 (σi.ctr + 4 + 3) 0 1, (by simp [dstB, lpName, hL]), .inr ⟨by rw [leftX_no]; simp, σi.ctr + 4 + 3, true, (by rw [leftX_no]; simp [hL]), (by rw [leftX_no]; simp [dstB, lpName, hL, Xt.enc])⟩⟩, ⟨v10, by simp [dstB, lpName, o10], ?_⟩⟩
            rw [spanX_no]
            simpa [dstB, lpName] using hv10
        · have hb1 : (leftX d).length + 1 ≤ 140737488355328 := by omega
          have hb2 : ((leftX d).length + 1) * 32 ≤ 140737488355328 := by omega
          repeat' (first
 | (intro h; first | (exfalso; exact Bool.noConfusion h) | (simp only [decide_eq_true_eq, decide_eq_false_iff_not] at h) | skip)
 | (apply evOps_fin; (case hf => (simp only [finGo, app1]; rfl)); skip)
 | refine WP_seq ?_
 | refine WP_scope ?_
 | refine WP_block ?_
 | refine WP_ret ?_
 | refine WP_skip ?_
 | refine WP_exit ?_
 | (apply WP_region; (case hl => rfl); (case hc => (simp only [put_env', put_own', put_ctr', put_none', setOwn_env', setOwn_own', setOwn_ctr', setCtr_env', setCtr_own', setCtr_ctr', entry, entryEnv, entryOwn, inAV, scAV, inOB]; rfl)); (case hc' => (conv => lhs; simp only [List.size_toArray, List.length_cons, List.length_nil, Nat.zero_add, Nat.reduceAdd, Nat.add_assoc])); skip)
 | (apply WP_draw; (case hl => rfl); (case hds => (simp only [List.map_cons, List.map_nil]; rfl)); (case hc => (simp only [put_env', put_own', put_ctr', put_none', setOwn_env', setOwn_own', setOwn_ctr', setCtr_env', setCtr_own', setCtr_ctr', entry, entryEnv, entryOwn, inAV, scAV, inOB]; rfl)); (case hc' => (conv => lhs; simp only [List.size_toArray, List.length_cons, List.length_nil, Nat.zero_add, Nat.reduceAdd, Nat.add_assoc])); (case hD => rfl); (case hb => kernel_rfl); (case h1 => (simp only [List.take_succ_cons, List.take_zero]; rfl)); (case h2 => (simp only [List.drop_succ_cons, List.drop_zero]; rfl)); (case h3 => (simp only [List.take_succ_cons, List.take_zero]; rfl)); intro had; skip)
 | refine evOps_nil ?_
 | refine evQ_nil ?_
 | (apply evQ_one; (case had => assumption); (case hg => rfl); (case hd => (simp [dstB]; done)); (case h => (simp [evQuiet, evCallQ, known, njk, AV.isJunk, Op.operands, Call.operands, evEff, evStep, evPure, o999, b3, b4, b5, o9, o10, putParams, lpName, lpOB, Xt.enc, hL, hb1, hb2, o38]; with_reducible rfl)); (case hs => (simp; done)); (case hR => (simp only [List.nil_append, List.cons_append]; rfl)); skip)
 | (apply evQ_yes; (case had => assumption); (case hg => rfl); (case hb => (simp [gval, evEff, dstB, o999, b3, b4, b5, o9, o10, putParams, lpName, lpOB, Xt.enc, hL, hb1, hb2, o38]; done)); (case hd => (simp [dstB]; done)); (case h => (simp [evQuiet, evCallQ, known, njk, AV.isJunk, Op.operands, Call.operands, evEff, evStep, evPure, o999, b3, b4, b5, o9, o10, putParams, lpName, lpOB, Xt.enc, hL, hb1, hb2, o38]; with_reducible rfl)); (case hs => (simp; done)); (case hR => (simp only [List.nil_append, List.cons_append]; rfl)); skip)
 | (apply evQ_no; (case had => assumption); (case hg => rfl); (case hb => (simp [gval, evEff, dstB, o999, b3, b4, b5, o9, o10, putParams, lpName, lpOB, Xt.enc, hL, hb1, hb2, o38]; with_reducible rfl)); (case hne => (simp; done)); (case hd => (simp [dstB]; done)); (case hR => (simp only [List.nil_append, List.cons_append]; rfl)); skip)
 | (apply evQ_split; (case hg => rfl); (case hb => (simp only [List.getElem?_cons_succ, List.getElem?_cons_zero]; rfl)); (case hv => ((fail_if_success (with_reducible exact (rfl : (_ : QR) = (AV.d (.val (.bool true)) _, none)))); (fail_if_success (with_reducible exact (rfl : (_ : QR) = (AV.d (.val (.bool false)) _, none)))); rfl)); (case hT => (simp only [List.set_cons_succ, List.set_cons_zero]; rfl)); (case hF => (simp only [List.set_cons_succ, List.set_cons_zero]; rfl)); skip)
 | (apply evOps_one; (case hg => rfl); (case h => (simp [evStep, evPure, o999, b3, b4, b5, o9, o10, putParams, lpName, lpOB, Xt.enc, hL, hb1, hb2, o38]; with_reducible rfl)); skip)
 | (apply evOps_yes; (case hg => rfl); (case hb => (simp [gval, dstB, o999, b3, b4, b5, o9, o10, putParams, lpName, lpOB, Xt.enc, hL, hb1, hb2, o38]; done)); (case h => (simp [evStep, evPure, o999, b3, b4, b5, o9, o10, putParams, lpName, lpOB, Xt.enc, hL, hb1, hb2, o38]; with_reducible rfl)); skip)
 | (apply evOps_no; (case hg => rfl); (case hb => (simp [gval, dstB, o999, b3, b4, b5, o9, o10, putParams, lpName, lpOB, Xt.enc, hL, hb1, hb2, o38]; with_reducible rfl)); (case hne => (simp; done)); (case hd => (simp [dstB]; done)); skip)
 | (apply evOps_big; (case hg => rfl); (case hd => (simp [dstB]; done)); (case hb => (simp [evBig, evStep, evPure, o999, b3, b4, b5, o9, o10, putParams, lpName, lpOB, Xt.enc, hL, hb1, hb2, o38]; with_reducible rfl)); skip)
 | (apply evOps_bigYes; (case hg => rfl); (case hgv => (simp [gval, dstB, o999, b3, b4, b5, o9, o10, putParams, lpName, lpOB, Xt.enc, hL, hb1, hb2, o38]; done)); (case hd => (simp [dstB]; done)); (case hb => (simp [evBig, evStep, evPure, o999, b3, b4, b5, o9, o10, putParams, lpName, lpOB, Xt.enc, hL, hb1, hb2, o38]; with_reducible rfl)); skip)
 | (apply evOps_split; (case _hg => rfl); (case _ht => rfl); (case hb => (simp [dstB]; with_reducible rfl)); (case hv => ((fail_if_success (with_reducible exact (rfl : (_ : AV) = AV.d (.val (.bool true)) _))); (fail_if_success (with_reducible exact (rfl : (_ : AV) = AV.d (.val (.bool false)) _))); rfl)); skip)
 | (apply WP_cond; (case hx => (simp [St.eval, dstB, o999, b3, b4, b5, o9, o10, putParams, lpName, lpOB, Xt.enc, hL, hb1, hb2, o38]; with_reducible rfl)); (case hv => rfl); skip))
          refine ⟨rfl, ?_, ?_⟩
          · simp [dstB, o999, lpName]
          repeat' (first
 | (intro h; first | (exfalso; exact Bool.noConfusion h) | (simp only [decide_eq_true_eq, decide_eq_false_iff_not] at h) | skip)
 | (apply evOps_fin; (case hf => (simp only [finGo, app1]; rfl)); skip)
 | refine WP_seq ?_
 | refine WP_scope ?_
 | refine WP_block ?_
 | refine WP_ret ?_
 | refine WP_skip ?_
 | refine WP_exit ?_
 | (apply WP_region; (case hl => rfl); (case hc => (simp only [put_env', put_own', put_ctr', put_none', setOwn_env', setOwn_own', setOwn_ctr', setCtr_env', setCtr_own', setCtr_ctr', entry, entryEnv, entryOwn, inAV, scAV, inOB]; rfl)); (case hc' => (conv => lhs; simp only [List.size_toArray, List.length_cons, List.length_nil, Nat.zero_add, Nat.reduceAdd, Nat.add_assoc])); skip)
 | (apply WP_draw; (case hl => rfl); (case hds => (simp only [List.map_cons, List.map_nil]; rfl)); (case hc => (simp only [put_env', put_own', put_ctr', put_none', setOwn_env', setOwn_own', setOwn_ctr', setCtr_env', setCtr_own', setCtr_ctr', entry, entryEnv, entryOwn, inAV, scAV, inOB]; rfl)); (case hc' => (conv => lhs; simp only [List.size_toArray, List.length_cons, List.length_nil, Nat.zero_add, Nat.reduceAdd, Nat.add_assoc])); (case hD => rfl); (case hb => kernel_rfl); (case h1 => (simp only [List.take_succ_cons, List.take_zero]; rfl)); (case h2 => (simp only [List.drop_succ_cons, List.drop_zero]; rfl)); (case h3 => (simp only [List.take_succ_cons, List.take_zero]; rfl)); intro had; skip)
 | refine evOps_nil ?_
 | refine evQ_nil ?_
 | (apply evQ_one; (case had => assumption); (case hg => rfl); (case hd => (simp [dstB]; done)); (case h => (simp [evQuiet, evCallQ, known, njk, AV.isJunk, Op.operands, Call.operands, evEff, evStep, evPure, o999, b3, b4, b5, o9, o10, putParams, lpName, lpOB, Xt.enc, hL, hb1, hb2, o38]; with_reducible rfl)); (case hs => (simp; done)); (case hR => (simp only [List.nil_append, List.cons_append]; rfl)); skip)
 | (apply evQ_yes; (case had => assumption); (case hg => rfl); (case hb => (simp [gval, evEff, dstB, o999, b3, b4, b5, o9, o10, putParams, lpName, lpOB, Xt.enc, hL, hb1, hb2, o38]; done)); (case hd => (simp [dstB]; done)); (case h => (simp [evQuiet, evCallQ, known, njk, AV.isJunk, Op.operands, Call.operands, evEff, evStep, evPure, o999, b3, b4, b5, o9, o10, putParams, lpName, lpOB, Xt.enc, hL, hb1, hb2, o38]; with_reducible rfl)); (case hs => (simp; done)); (case hR => (simp only [List.nil_append, List.cons_append]; rfl)); skip)
 | (apply evQ_no; (case had => assumption); (case hg => rfl); (case hb => (simp [gval, evEff, dstB, o999, b3, b4, b5, o9, o10, putParams, lpName, lpOB, Xt.enc, hL, hb1, hb2, o38]; with_reducible rfl)); (case hne => (simp; done)); (case hd => (simp [dstB]; done)); (case hR => (simp only [List.nil_append, List.cons_append]; rfl)); skip)
 | (apply evQ_split; (case hg => rfl); (case hb => (simp only [List.getElem?_cons_succ, List.getElem?_cons_zero]; rfl)); (case hv => ((fail_if_success (with_reducible exact (rfl : (_ : QR) = (AV.d (.val (.bool true)) _, none)))); (fail_if_success (with_reducible exact (rfl : (_ : QR) = (AV.d (.val (.bool false)) _, none)))); rfl)); (case hT => (simp only [List.set_cons_succ, List.set_cons_zero]; rfl)); (case hF => (simp only [List.set_cons_succ, List.set_cons_zero]; rfl)); skip)
 | (apply evOps_one; (case hg => rfl); (case h => (simp [evStep, evPure, o999, b3, b4, b5, o9, o10, putParams, lpName, lpOB, Xt.enc, hL, hb1, hb2, o38]; with_reducible rfl)); skip)
 | (apply evOps_yes; (case hg => rfl); (case hb => (simp [gval, dstB, o999, b3, b4, b5, o9, o10, putParams, lpName, lpOB, Xt.enc, hL, hb1, hb2, o38]; done)); (case h => (simp [evStep, evPure, o999, b3, b4, b5, o9, o10, putParams, lpName, lpOB, Xt.enc, hL, hb1, hb2, o38]; with_reducible rfl)); skip)
 | (apply evOps_no; (case hg => rfl); (case hb => (simp [gval, dstB, o999, b3, b4, b5, o9, o10, putParams, lpName, lpOB, Xt.enc, hL, hb1, hb2, o38]; with_reducible rfl)); (case hne => (simp; done)); (case hd => (simp [dstB]; done)); skip)
 | (apply evOps_big; (case hg => rfl); (case hd => (simp [dstB]; done)); (case hb => (simp [evBig, evStep, evPure, o999, b3, b4, b5, o9, o10, putParams, lpName, lpOB, Xt.enc, hL, hb1, hb2, o38]; with_reducible rfl)); skip)
 | (apply evOps_bigYes; (case hg => rfl); (case hgv => (simp [gval, dstB, o999, b3, b4, b5, o9, o10, putParams, lpName, lpOB, Xt.enc, hL, hb1, hb2, o38]; done)); (case hd => (simp [dstB]; done)); (case hb => (simp [evBig, evStep, evPure, o999, b3, b4, b5, o9, o10, putParams, lpName, lpOB, Xt.enc, hL, hb1, hb2, o38]; with_reducible rfl)); skip)
 | (apply evOps_split; (case _hg => rfl); (case _ht => rfl); (case hb => (simp [dstB]; with_reducible rfl)); (case hv => ((fail_if_success (with_reducible exact (rfl : (_ : AV) = AV.d (.val (.bool true)) _))); (fail_if_success (with_reducible exact (rfl : (_ : AV) = AV.d (.val (.bool false)) _))); rfl)); skip)
 | (apply WP_cond; (case hx => (simp [St.eval, dstB, o999, b3, b4, b5, o9, o10, putParams, lpName, lpOB, Xt.enc, hL, hb1, hb2, o38]; with_reducible rfl)); (case hv => rfl); skip))
          refine ⟨by simp [dstB, lpName, lpOB], ?_⟩
          refine hk _ rfl ?_ ?_ ?_
          · simp [dstB]; try omega
          · intro y hy
            have q1 : ¬ y = 9 := by omega
            have q2 : ¬ y = 10 := by omega
            have q3 : ¬ y = 11 := by omega
            have q4 : ¬ y = 33 := by omega
            have q5 : ¬ y = 34 := by omega
            have q6 : ¬ y = 37 := by omega
            have q7 : ¬ y = 38 := by omega
            have q8 : ¬ y = 999 := by omega
            simp [dstB, lpName, q1, q2, q3, q4, q5, q6, q7, q8]
          · refine ⟨by simp [dstB, lpName, lpOB], ⟨by simp [dstB, lpName, b3], by simp [dstB, lpName, b4], by simp [dstB, lpName, b5]⟩, ⟨.rs 38 (σi.ctr + 4 + 3) 0 ((leftX d).length + 1), (by simp [dstB, lpName, hL]), .inr ⟨by rw [leftX_no]; simp, σi.ctr + 4 + 3, fr, (by rw [leftX_no]; simp [hL]), (by rw [leftX_no]; simp [dstB, lpName, hL, Xt.enc])⟩⟩, ⟨v10, by simp [dstB, lpName, o10], ?_⟩⟩
            rw [spanX_no]
            simpa [dstB, lpName] using hv10
      · rcases hv10 with ⟨hL, rfl⟩ | ⟨hL, g, rfl, o34⟩
        · have hb1 : True := trivial
          have hb2 : True := trivial
          repeat' (first
 | (intro h; first | (exfalso; exact Bool.noConfusion h) | (simp only [decide_eq_true_eq, decide_eq_false_iff_not] at h) | skip)
 | (apply evOps_fin; (case hf => (simp only [finGo, app1]; rfl)); skip)
 | refine WP_seq ?_
 | refine WP_scope ?_
 | refine WP_block ?_
 | refine WP_ret ?_
 | refine WP_skip ?_
 | refine WP_exit ?_
 | (apply WP_region; (case hl => rfl); (case hc => (simp only [put_env', put_own', put_ctr', put_none', setOwn_env', setOwn_own', setOwn_ctr', setCtr_env', setCtr_own', setCtr_ctr', entry, entryEnv, entryOwn, inAV, scAV, inOB]; rfl)); (case hc' => (conv => lhs; simp only [List.size_toArray, List.length_cons, List.length_nil, Nat.zero_add, Nat.reduceAdd, Nat.add_assoc])); skip)
 | (apply WP_draw; (case hl => rfl); (case hds => (simp only [List.map_cons, List.map_nil]; rfl)); (case hc => (simp only [put_env', put_own', put_ctr', put_none', setOwn_env', setOwn_own', setOwn_ctr', setCtr_env', setCtr_own', setCtr_ctr', entry, entryEnv, entryOwn, inAV, scAV, inOB]; rfl)); (case hc' => (conv => lhs; simp only [List.size_toArray, List.length_cons, List.length_nil, Nat.zero_add, Nat.reduceAdd, Nat.add_assoc])); (case hD => rfl); (case hb => kernel_rfl); (case h1 => (simp only [List.take_succ_cons, List.take_zero]; rfl)); (case h2 => (simp only [List.drop_succ_cons, List.drop_zero]; rfl)); (case h3 => (simp only [List.take_succ_cons, List.take_zero]; rfl)); intro had; skip)
 | refine evOps_nil ?_
 | refine evQ_nil ?_
 | (apply evQ_one; (case had => assumption); (case hg => rfl); (case hd => (simp [dstB]; done)); (case h => (simp [evQuiet, evCallQ, known, njk, AV.isJunk, Op.operands, Call.operands, evEff, evStep, evPure, o999, b3, b4, b5, o9, o10, putParams, lpName, lpOB, Xt.enc, hL, hb1, hb2]; with_reducible rfl)); (case hs => (simp; done)); (case hR => (simp only [List.nil_append, List.cons_append]; rfl)); skip)
 | (apply evQ_yes; (case had => assumption); (case hg => rfl); (case hb => (simp [gval, evEff, dstB, o999, b3, b4, b5, o9, o10, putParams, lpName, lpOB, Xt.enc, hL, hb1, hb2]; done)); (case hd => (simp [dstB]; done)); (case h => (simp [evQuiet, evCallQ, known, njk, AV.isJunk, Op.operands, Call.operands, evEff, evStep, evPure, o999, b3, b4, b5, o9, o10, putParams, lpName, lpOB, Xt.enc, hL, hb1, hb2]; with_reducible rfl)); (case hs => (simp; done)); (case hR => (simp only [List.nil_append, List.cons_append]; rfl)); skip)
 | (apply evQ_no; (case had => assumption); (case hg => rfl); (case hb => (simp [gval, evEff, dstB, o999, b3, b4, b5, o9, o10, putParams, lpName, lpOB, Xt.enc, hL, hb1, hb2]; with_reducible rfl)); (case hne => (simp; done)); (case hd => (simp [dstB]; done)); (case hR => (simp only [List.nil_append, List.cons_append]; rfl)); skip)
 | (apply evQ_split; (case hg => rfl); (case hb => (simp only [List.getElem?_cons_succ, List.getElem?_cons_zero]; rfl)); (case hv => ((fail_if_success (with_reducible exact (rfl : (_ : QR) = (AV.d (.val (.bool true)) _, none)))); (fail_if_success (with_reducible exact (rfl : (_ : QR) = (AV.d (.val (.bool false)) _, none)))); rfl)); (case hT => (simp only [List.set_cons_succ, List.set_cons_zero]; rfl)); (case hF => (simp only [List.set_cons_succ, List.set_cons_zero]; rfl)); skip)
 | (apply evOps_one; (case hg => rfl); (case h => (simp [evStep, evPure, o999, b3, b4, b5, o9, o10, putParams, lpName, lpOB, Xt.enc, hL, hb1, hb2]; with_reducible rfl)); skip)
 | (apply evOps_yes; (case hg => rfl); (case hb => (simp [gval, dstB, o999, b3, b4, b5, o9, o10, putParams, lpName, lpOB, Xt.enc, hL, hb1, hb2]; done)); (case h => (simp [evStep, evPure, o999, b3, b4, b5, o9, o10, putParams, lpName, lpOB, Xt.enc, hL, hb1, hb2]; with_reducible rfl)); skip)
 | (apply evOps_no; (case hg => rfl); (case hb => (simp [gval, dstB, o999, b3, b4, b5, o9, o10, putParams, lpName, lpOB, Xt.enc, hL, hb1, hb2]; with_reducible rfl)); (case hne => (simp; done)); (case hd => (simp [dstB]; done)); skip)
 | (apply evOps_big; (case hg => rfl); (case hd => (simp [dstB]; done)); (case hb => (simp [evBig, evStep, evPure, o999, b3, b4, b5, o9, o10, putParams, lpName, lpOB, Xt.enc, hL, hb1, hb2]; with_reducible rfl)); skip)
 | (apply evOps_bigYes; (case hg => rfl); (case hgv => (simp [gval, dstB, o999, b3, b4, b5, o9, o10, putParams, lpName, lpOB, Xt.enc, hL, hb1, hb2]; done)); (case hd => (simp [dstB]; done)); (case hb => (simp [evBig, evStep, evPure, o999, b3, b4, b5, o9, o10, putParams, lpName, lpOB, Xt.enc, hL, hb1, hb2]; with_reducible rfl)); skip)
 | (apply evOps_split; (case _hg => rfl); (case _ht => rfl); (case hb => (simp [dstB]; with_reducible rfl)); (case hv => ((fail_if_success (with_reducible exact (rfl : (_ : AV) = AV.d (.val (.bool true)) _))); (fail_if_success (with_reducible exact (rfl : (_ : AV) = AV.d (.val (.bool false)) _))); rfl)); skip)
 | (apply WP_cond; (case hx => (simp [St.eval, dstB, o999, b3, b4, b5, o9, o10, putParams, lpName, lpOB, Xt.enc, hL, hb1, hb2]; with_reducible rfl)); (case hv => rfl); skip))
          refine ⟨rfl, ?_, ?_⟩
          · simp [dstB, o999, lpName]
          repeat' (first
 | (intro h; first | (exfalso; exact Bool.noConfusion h) | (simp only [decide_eq_true_eq, decide_eq_false_iff_not] at h) | skip)
 | (apply evOps_fin; (case hf => (simp only [finGo, app1]; rfl)); skip)
 | refine WP_seq ?_
 | refine WP_scope ?_
 | refine WP_block ?_
 | refine WP_ret ?_
 | refine WP_skip ?_
 | refine WP_exit ?_
 | (apply WP_region; (case hl => rfl); (case hc => (simp only [put_env', put_own', put_ctr', put_none', setOwn_env', setOwn_own', setOwn_ctr', setCtr_env', setCtr_own', setCtr_ctr', entry, entryEnv, entryOwn, inAV, scAV, inOB]; rfl)); (case hc' => (conv => lhs; simp only [List.size_toArray, List.length_cons, List.length_nil, Nat.zero_add, Nat.reduceAdd, Nat.add_assoc])); skip)
 | (apply WP_draw; (case hl => rfl); (case hds => (simp only [List.map_cons, List.map_nil]; rfl)); (case hc => (simp only [put_env', put_own', put_ctr', put_none', setOwn_env', setOwn_own', setOwn_ctr', setCtr_env', setCtr_own', setCtr_ctr', entry, entryEnv, entryOwn, inAV, scAV, inOB]; rfl)); (case hc' => (conv => lhs; simp only [List.size_toArray, List.length_cons, List.length_nil, Nat.zero_add, Nat.reduceAdd, Nat.add_assoc])); (case hD => rfl); (case hb => kernel_rfl); (case h1 => (simp only [List.take_succ_cons, List.take_zero]; rfl)); (case h2 => (simp only [List.drop_succ_cons, List.drop_zero]; rfl)); (case h3 => (simp only [List.take_succ_cons, List.take_zero]; rfl)); intro had; skip)
 | refine evOps_nil ?_
 | refine evQ_nil ?_
 | (apply evQ_one; (case had => assumption); (case hg => rfl); (case hd => (simp [dstB]; done)); (case h => (simp [evQuiet, evCallQ, known, njk, AV.isJunk, Op.operands, Call.operands, evEff, evStep, evPure, o999, b3, b4, b5, o9, o10, putParams, lpName, lpOB, Xt.enc, hL, hb1, hb2]; with_reducible rfl)); (case hs => (simp; done)); (case hR => (simp only [List.nil_append, List.cons_append]; rfl)); skip)
 | (apply evQ_yes; (case had => assumption); (case hg => rfl); (case hb => (simp [gval, evEff, dstB, o999, b3, b4, b5, o9, o10, putParams, lpName, lpOB, Xt.enc, hL, hb1, hb2]; done)); (case hd => (simp [dstB]; done)); (case h => (simp [evQuiet, evCallQ, known, njk, AV.isJunk, Op.operands, Call.operands, evEff, evStep, evPure, o999, b3, b4, b5, o9, o10, putParams, lpName, lpOB, Xt.enc, hL, hb1, hb2]; with_reducible rfl)); (case hs => (simp; done)); (case hR => (simp only [List.nil_append, List.cons_append]; rfl)); skip)
 | (apply evQ_no; (case had => assumption); (case hg => rfl); (case hb => (simp [gval, evEff, dstB, o999, b3, b4, b5, o9, o10, putParams, lpName, lpOB, Xt.enc, hL, hb1, hb2]; with_reducible rfl)); (case hne => (simp; done)); (case hd => (simp [dstB]; done)); (case hR => (simp only [List.nil_append, List.cons_append]; rfl)); skip)
 | (apply evQ_split; (case hg => rfl); (case hb => (simp only [List.getElem?_cons_succ, List.getElem?_cons_zero]; rfl)); (case hv => ((fail_if_success (with_reducible exact (rfl : (_ : QR) = (AV.d (.val (.bool true)) _, none)))); (fail_if_success (with_reducible exact (rfl : (_ : QR) = (AV.d (.val (.bool false)) _, none)))); rfl)); (case hT => (simp only [List.set_cons_succ, List.set_cons_zero]; rfl)); (case hF => (simp only [List.set_cons_succ, List.set_cons_zero]; rfl)); skip)
 | (apply evOps_one; (case hg => rfl); (case h => (simp [evStep, evPure, o999, b3, b4, b5, o9, o10, putParams, lpName, lpOB, Xt.enc, hL, hb1, hb2]; with_reducible rfl)); skip)
 | (apply evOps_yes; (case hg => rfl); (case hb => (simp [gval, dstB, o999, b3, b4, b5, o9, o10, putParams, lpName, lpOB, Xt.enc, hL, hb1, hb2]; done)); (case h => (simp [evStep, evPure, o999, b3, b4, b5, o9, o10, putParams, lpName, lpOB, Xt.enc, hL, hb1, hb2]; with_reducible rfl)); skip)
 | (apply evOps_no; (case hg => rfl); (case hb => (simp [gval, dstB, o999, b3, b4, b5, o9, o10, putParams, lpName, lpOB, Xt.enc, hL, hb1, hb2]; with_reducible rfl)); (case hne => (simp; done)); (case hd => (simp [dstB]; done)); skip)
 | (apply evOps_big; (case hg => rfl); (case hd => (simp [dstB]; done)); (case hb => (simp [evBig, evStep, evPure, o999, b3, b4, b5, o9, o10, putParams, lpName, lpOB, Xt.enc, hL, hb1, hb2]; with_reducible rfl)); skip)
 | (apply evOps_bigYes; (case hg => rfl); (case hgv => (simp [gval, dstB, o999, b3, b4, b5, o9, o10, putParams, lpName, lpOB, Xt.enc, hL, hb1, hb2]; done)); (case hd => (simp [dstB]; done)); (case hb => (simp [evBig, evStep, evPure, o999, b3, b4, b5, o9, o10, putParams, lpName, lpOB, Xt.enc, hL, hb1, hb2]; with_reducible rfl)); skip)
 | (apply evOps_split; (case _hg => rfl); (case _ht => rfl); (case hb => (simp [dstB]; with_reducible rfl)); (case hv => ((fail_if_success (with_reducible exact (rfl : (_ : AV) = AV.d (.val (.bool true)) _))); (fail_if_success (with_reducible exact (rfl : (_ : AV) = AV.d (.val (.bool false)) _))); rfl)); skip)
 | (apply WP_cond; (case hx => (simp [St.eval, dstB, o999, b3, b4, b5, o9, o10, putParams, lpName, lpOB, Xt.enc, hL, hb1, hb2]; with_reducible rfl)); (case hv => rfl); skip))
          refine ⟨by simp [dstB, lpName, lpOB], ?_⟩
          refine hk _ rfl ?_ ?_ ?_
          · simp [dstB]; try omega
          · intro y hy
            have q1 : ¬ y = 9 := by omega
            have q2 : ¬ y = 10 := by omega
            have q3 : ¬ y = 11 := by omega
            have q4 : ¬ y = 33 := by omega
            have q5 : ¬ y = 34 := by omega
            have q6 : ¬ y = 37 := by omega
            have q7 : ¬ y = 38 := by omega
            have q8 : ¬ y = 999 := by omega
            simp [dstB, lpName, q1, q2, q3, q4, q5, q6, q7, q8]
          · refine ⟨by simp [dstB, lpName, lpOB], ⟨by simp [dstB, lpName, b3], by simp [dstB, lpName, b4], by simp [dstB, lpName, b5]⟩, ⟨v9, by simp [dstB, lpName, o9], ?_⟩, ⟨.rs 34 (σi.ctr + 4 + 7) 0 1, (by simp [dstB, lpName, hL]), .inr ⟨by rw [spanX_yes]; simp, σi.ctr + 4 + 7, (by rw [spanX_yes]; simp [hL]), (by rw [spanX_yes]; simp [dstB, lpName, hL])⟩⟩⟩
            rw [leftX_yes]
            simpa [dstB, lpName] using hv9
        · have hb1 : (spanX d).length + 1 ≤ 140737488355328 := by omega
          have hb2 : ((spanX d).length + 1) * 16 ≤ 140737488355328 := by omega
          repeat' (first
 | (intro h; first | (exfalso; exact Bool.noConfusion h) | (simp only [decide_eq_true_eq, decide_eq_false_iff_not] at h) | skip)
 | (apply evOps_fin; (case hf => (simp only [finGo, app1]; rfl)); skip)
 | refine WP_seq ?_
 | refine WP_scope ?_
 | refine WP_block ?_
 | refine WP_ret ?_
 | refine WP_skip ?_
 | refine WP_exit ?_
 | (apply WP_region; (case hl => rfl); (case hc => (simp only [put_env', put_own', put_ctr', put_none', setOwn_env', setOwn_own', setOwn_ctr', setCtr_env', setCtr_own', setCtr_ctr', entry, entryEnv, entryOwn, inAV, scAV, inOB]; rfl)); (case hc' => (conv => lhs; simp only [List.size_toArray, List.length_cons, List.length_nil, Nat.zero_add, Nat.reduceAdd, Nat.add_assoc])); skip)
 | (apply WP_draw; (case hl => rfl); (case hds => (simp only [List.map_cons, List.map_nil]; rfl)); (case hc => (simp only [put_env', put_own', put_ctr', put_none', setOwn_env', setOwn_own', setOwn_ctr', setCtr_env', setCtr_own', setCtr_ctr', entry, entryEnv, entryOwn, inAV, scAV, inOB]; rfl)); (case hc' => (conv => lhs; simp only [List.size_toArray, List.length_cons, List.length_nil, Nat.zero_add, Nat.reduceAdd, Nat.add_assoc])); (case hD => rfl); (case hb => kernel_rfl); (case h1 => (simp only [List.take_succ_cons, List.take_zero]; rfl)); (case h2 => (simp only [List.drop_succ_cons, List.drop_zero]; rfl)); (case h3 => (simp only [List.take_succ_cons, List.take_zero]; rfl)); intro had; skip)
 | refine evOps_nil ?_
 | refine evQ_nil ?_
 | (apply evQ_one; (case had => assumption); (case hg => rfl); (case hd => (simp [dstB]; done)); (case h => (simp [evQuiet, evCallQ, known, njk, AV.isJunk, Op.operands, Call.operands, evEff, evStep, evPure, o999, b3, b4, b5, o9, o10, putParams, lpName, lpOB, Xt.enc, hL, hb1, hb2, o34]; with_reducible rfl)); (case hs => (simp; done)); (case hR => (simp only [List.nil_append, List.cons_append]; rfl)); skip)
 | (apply evQ_yes; (case had => assumption); (case hg => rfl); (case hb => (simp [gval, evEff, dstB, o999, b3, b4, b5, o9, o10, putParams, lpName, lpOB, Xt.enc, hL, hb1, hb2, o34]; done)); (case hd => (simp [dstB]; done)); (case h => (simp [evQuiet, evCallQ, known, njk, AV.isJunk, Op.operands, Call.operands, evEff, evStep, evPure, o999, b3, b4, b5, o9, o10, putParams, lpName, lpOB, Xt.enc, hL, hb1, hb2, o34]; with_reducible rfl)); (case hs => (simp; done)); (case hR => (simp only [List.nil_append, List.cons_append]; rfl)); skip)
 | (apply evQ_no; (case had => assumption); (case hg => rfl); (case hb => (simp [gval, evEff, dstB, o999, b3, b4, b5, o9, o10, putParams, lpName, lpOB, Xt.enc, hL, hb1, hb2, o34]; with_reducible rfl)); (case hne => (simp; done)); (case hd => (simp [dstB]; done)); (case hR => (simp only [List.nil_append, List.cons_append]; rfl)); skip)
 | (apply evQ_split; (case hg => rfl); (case hb => (simp only [List.getElem?_cons_succ, List.getElem?_cons_zero]; rfl)); (case hv => ((fail_if_success (with_reducible exact (rfl : (_ : QR) = (AV.d (.val (.bool true)) _, none)))); (fail_if_success (with_reducible exact (rfl : (_ : QR) = (AV.d (.val (.bool false)) _, none)))); rfl)); (case hT => (simp only [List.set_cons_succ, List.set_cons_zero]; rfl)); (case hF => (simp only [List.set_cons_succ, List.set_cons_zero]; rfl)); skip)
 | (apply evOps_one; (case hg => rfl); (case h => (simp [evStep, evPure, o999, b3, b4, b5, o9, o10, putParams, lpName, lpOB, Xt.enc, hL, hb1, hb2, o34]; with_reducible rfl)); skip)
 | (apply evOps_yes; (case hg => rfl); (case hb => (simp [gval, dstB, o999, b3, b4, b5, o9, o10, putParams, lpName, lpOB, Xt.enc, hL, hb1, hb2, o34]; done)); (case h => (simp [evStep, evPure, o999, b3, b4, b5, o9, o10, putParams, lpName, lpOB, Xt.enc, hL, hb1, hb2, o34]; with_reducible rfl)); skip)
 | (apply evOps_no; (case hg => rfl); (case hb => (simp [gval, dstB, o999, b3, b4, b5, o9, o10, putParams, lpName, lpOB, Xt.enc, hL, hb1, hb2, o34]; with_reducible rfl)); (case hne => (simp; done)); (case hd => (simp [dstB]; done)); skip)
 | (apply evOps_big; (case hg => rfl); (case hd => (simp [dstB]; done)); (case hb => (simp [evBig, evStep, evPure, o999, b3, b4, b5, o9, o10, putParams, lpName, lpOB, Xt.enc, hL, hb1, hb2, o34]; with_reducible rfl)); skip)
 | (apply evOps_bigYes; (case hg => rfl); (case hgv => (simp [gval, dstB, o999, b3, b4, b5, o9, o10, putParams, lpName, lpOB, Xt.enc, hL, hb1, hb2, o34]; done)); (case hd => (simp [dstB]; done)); (case hb => (simp [evBig, evStep, evPure, o999, b3, b4, b5, o9, o10, putParams, lpName, lpOB, Xt.enc, hL, hb1, hb2, o34]; with_reducible rfl)); skip)
 | (apply evOps_split; (case _hg => rfl); (case _ht => rfl); (case hb => (simp [dstB]; with_reducible rfl)); (case hv => ((fail_if_success (with_reducible exact (rfl : (_ : AV) = AV.d (.val (.bool true)) _))); (fail_if_success (with_reducible exact (rfl : (_ : AV) = AV.d (.val (.bool false)) _))); rfl)); skip)
 | (apply WP_cond; (case hx => (simp [St.eval, dstB, o999, b3, b4, b5, o9, o10, putParams, lpName, lpOB, Xt.enc, hL, hb1, hb2, o34]; with_reducible rfl)); (case hv => rfl); skip))
          refine ⟨rfl, ?_, ?_⟩
          · simp [dstB, o999, lpName]
          repeat' (first
 | (intro h; first | (exfalso; exact Bool.noConfusion h) | (simp only [decide_eq_true_eq, decide_eq_false_iff_not] at h) | skip)
 | (apply evOps_fin; (case hf => (simp only [finGo, app1]; rfl)); skip)
 | refine WP_seq ?_
 | refine WP_scope ?_
 | refine WP_block ?_
 | refine WP_ret ?_
 | refine WP_skip ?_
 | refine WP_exit ?_
 | (apply WP_region; (case hl => rfl); (case hc => (simp only [put_env', put_own', put_ctr', put_none', setOwn_env', setOwn_own', setOwn_ctr', setCtr_env', setCtr_own', setCtr_ctr', entry, entryEnv, entryOwn, inAV, scAV, inOB]; rfl)); (case hc' => (conv => lhs; simp only [List.size_toArray, List.length_cons, List.length_nil, Nat.zero_add, Nat.reduceAdd, Nat.add_assoc])); skip)
 | (apply WP_draw; (case hl => rfl); (case hds => (simp only [List.map_cons, List.map_nil]; rfl)); (case hc => (simp only [put_env', put_own', put_ctr', put_none', setOwn_env', setOwn_own', setOwn_ctr', setCtr_env', setCtr_own', setCtr_ctr', entry, entryEnv, entryOwn, inAV, scAV, inOB]; rfl)); (case hc' => (conv => lhs; simp only [List.size_toArray, List.length_cons, List.length_nil, Nat.zero_add, Nat.reduceAdd, Nat.add_assoc])); (case hD => rfl); (case hb => kernel_rfl); (case h1 => (simp only [List.take_succ_cons, List.take_zero]; rfl)); (case h2 => (simp only [List.drop_succ_cons, List.drop_zero]; rfl)); (case h3 => (simp only [List.take_succ_cons, List.take_zero]; rfl)); intro had; skip)
 | refine evOps_nil ?_
 | refine evQ_nil ?_
 | (apply evQ_one; (case had => assumption); (case hg => rfl); (case hd => (simp [dstB]; done)); (case h => (simp [evQuiet, evCallQ, known, njk, AV.isJunk, Op.operands, Call.operands, evEff, evStep, evPure, o999, b3, b4, b5, o9, o10, putParams, lpName, lpOB, Xt.enc, hL, hb1, hb2, o34]; with_reducible rfl)); (case hs => (simp; done)); (case hR => (simp only [List.nil_append, List.cons_append]; rfl)); skip)
 | (apply evQ_yes; (case had => assumption); (case hg => rfl); (case hb => (simp [gval, evEff, dstB, o999, b3, b4, b5, o9, o10, putParams, lpName, lpOB, Xt.enc, hL, hb1, hb2, o34]; done)); (case hd => (simp [dstB]; done)); (case h => (simp [evQuiet, evCallQ, known, njk, AV.isJunk, Op.operands, Call.operands, evEff, evStep, evPure, o999, b3, b4, b5, o9, o10, putParams, lpName, lpOB, Xt.enc, hL, hb1, hb2, o34]; with_reducible rfl)); (case hs => (simp; done)); (case hR => (simp only [List.nil_append, List.cons_append]; rfl)); skip)
 | (apply evQ_no; (case had => assumption); (case hg => rfl); (case hb => (simp [gval, evEff, dstB, o999, b3, b4, b5, o9, o10, putParams, lpName, lpOB, Xt.enc, hL, hb1, hb2, o34]; with_reducible rfl)); (case hne => (simp; done)); (case hd => (simp [dstB]; done)); (case hR => (simp only [List.nil_append, List.cons_append]; rfl)); skip)
 | (apply evQ_split; (case hg => rfl); (case hb => (simp only [List.getElem?_cons_succ, List.getElem?_cons_zero]; rfl)); (case hv => ((fail_if_success (with_reducible exact (rfl : (_ : QR) = (AV.d (.val (.bool true)) _, none)))); (fail_if_success (with_reducible exact (rfl : (_ : QR) = (AV.d (.val (.bool false)) _, none)))); rfl)); (case hT => (simp only [List.set_cons_succ, List.set_cons_zero]; rfl)); (case hF => (simp only [List.set_cons_succ, List.set_cons_zero]; rfl)); skip)
 | (apply evOps_one; (case hg => rfl); (case h => (simp [evStep, evPure, o999, b3, b4, b5, o9, o10, putParams, lpName, lpOB, Xt.enc, hL, hb1, hb2, o34]; with_reducible rfl)); skip)
 | (apply evOps_yes; (case hg => rfl); (case hb => (simp [gval, dstB, o999, b3, b4, b5, o9, o10, putParams, lpName, lpOB, Xt.enc, hL, hb1, hb2, o34]; done)); (case h => (simp [evStep, evPure, o999, b3, b4, b5, o9, o10, putParams, lpName, lpOB, Xt.enc, hL, hb1, hb2, o34]; with_reducible rfl)); skip)
 | (apply evOps_no; (case hg => rfl); (case hb => (simp [gval, dstB, o999, b3, b4, b5, o9, o10, putParams, lpName, lpOB, Xt.enc, hL, hb1, hb2, o34]; with_reducible rfl)); (case hne => (simp; done)); (case hd => (simp [dstB]; done)); skip)
 | (apply evOps_big; (case hg => rfl); (case hd => (simp [dstB]; done)); (case hb => (simp [evBig, evStep, evPure, o999, b3, b4, b5, o9, o10, putParams, lpName, lpOB, Xt.enc, hL, hb1, hb2, o34]; with_reducible rfl)); skip)
 | (apply evOps_bigYes; (case hg => rfl); (case hgv => (simp [gval, dstB, o999, b3, b4, b5, o9, o10, putParams, lpName, lpOB, Xt.enc, hL, hb1, hb2, o34]; done)); (case hd => (simp [dstB]; done)); (case hb => (simp [evBig, evStep, evPure, o999, b3, b4, b5, o9, o10, putParams, lpName, lpOB, Xt.enc, hL, hb1, hb2, o34]; with_reducible rfl)); skip)
 | (apply evOps_split; (case _hg => rfl); (case _ht => rfl); (case hb => (simp [dstB]; with_reducible rfl)); (case hv => ((fail_if_success (with_reducible exact (rfl : (_ : AV) = AV.d (.val (.bool true)) _))); (fail_if_success (with_reducible exact (rfl : (_ : AV) = AV.d (.val (.bool false)) _))); rfl)); skip)
 | (apply WP_cond; (case hx => (simp [St.eval, dstB, o999, b3, b4, b5, o9, o10, putParams, lpName, lpOB, Xt.enc, hL, hb1, hb2, o34]; with_reducible rfl)); (case hv => rfl); skip))
          refine ⟨by simp [dstB, lpName, lpOB], ?_⟩
          refine hk _ rfl ?_ ?_ ?_
          · simp [dstB]; try omega
          · intro y hy
            have q1 : ¬ y = 9 := by omega
            have q2 : ¬ y = 10 := by omega
            have q3 : ¬ y = 11 := by omega
            have q4 : ¬ y = 33 := by omega
            have q5 : ¬ y = 34 := by omega
            have q6 : ¬ y = 37 := by omega
            have q7 : ¬ y = 38 := by omega
            have q8 : ¬ y = 999 := by omega
            simp [dstB, lpName, q1, q2, q3, q4, q5, q6, q7, q8]
          · refine ⟨by simp [dstB, lpName, lpOB], ⟨by simp [dstB, lpName, b3], by simp [dstB, lpName, b4], by simp [dstB, lpName, b5]⟩, ⟨v9, by simp [dstB, lpName, o9], ?_⟩, ⟨.rs 34 (σi.ctr + 4 + 7) 0 ((spanX d).length + 1), (by simp [dstB, lpName, hL]), .inr ⟨by rw [spanX_yes]; simp, σi.ctr + 4 + 7, (by rw [spanX_yes]; simp [hL]), (by rw [spanX_yes]; simp [dstB, lpName, hL])⟩⟩⟩
            rw [leftX_yes]
            simpa [dstB, lpName] using hv9
end Go.Dv

/-
  DERIVED, MY OWN. THE WALK OF Mark.
-/

set_option autoImplicit false
set_option maxRecDepth 20000
set_option linter.unusedSimpArgs false
set_option linter.unusedVariables false
namespace Go.Dv
open Go Go.RowKit Go.Proofs

def D11 : Dep := fun
  | _ => (0, [])
/-- What stands while the pieces come. -/
def Inv11 (n : Bool) (l : List Xt) (p q : Int) (g3 g4 g5 g8 c : Nat) (m3 m4 m5 m8 : Bool) (r : Loop) (d : List (Xt × Bool)) (σ : St) : Prop :=
  σ.own 999 = lpOB c r ∧ Caps n l p q g3 g4 g5 m3 m4 m5 σ ∧
  (∃ v, σ.own 8 = some (.var 22 g8 m8 [v]) ∧ ((markX d = [] ∧ v = .d (.sl true []) true) ∨ (markX d ≠ [] ∧ ∃ g fr, v = .rs 32 g 0 (markX d).length ∧ σ.own 32 = some (.row 24 4 g true false fr ((markX d).map Xt.enc)))))

set_option maxHeartbeats 4000000 in
theorem ok11 {T : Tbl} (hT : TblOk' Try.prog T) (h23 : T 23 = some sp23) (h29 : T 29 = some sp29) (h30 : T 30 = some sp30) (h31 : T 31 = none) (h56 : T 56 = some sp56) : FOk Try.prog 11 sp11 := by
  intro ins out h
  obtain ⟨n, l, p, q, rfl, rfl⟩ := sp11_inv h
  clear h
  refine at_of_bodyM (E := E10 T) (D := D11) (E10_ok hT) hT mix10 Try.func11 rfl (by simp [Try.ntmps11]) (by kernel_rfl) (fun ty => ?_)
  cases hr : rangedX l p q
  · repeat' (first
 | (intro h; first | (exfalso; exact Bool.noConfusion h) | (simp only [decide_eq_true_eq, decide_eq_false_iff_not] at h) | skip)
 | (apply evOps_fin; (case hf => (simp only [finGo, app1]; rfl)); skip)
 | refine WP_seq ?_
 | refine WP_scope ?_
 | refine WP_block ?_
 | refine WP_ret ?_
 | refine WP_skip ?_
 | refine WP_exit ?_
 | (apply WP_region; (case hl => rfl); (case hc => (simp only [put_env', put_own', put_ctr', put_none', setOwn_env', setOwn_own', setOwn_ctr', setCtr_env', setCtr_own', setCtr_ctr', entry, entryEnv, entryOwn, inAV, scAV, inOB]; rfl)); (case hc' => (conv => lhs; simp only [List.size_toArray, List.length_cons, List.length_nil, Nat.zero_add, Nat.reduceAdd, Nat.add_assoc])); skip)
 | refine evOps_nil ?_
 | (apply evOps_one; (case hg => rfl); (case h => (simp [evStep, evPure, h30, sp30, decL_enc, hr, Xt.enc]; with_reducible rfl)); skip)
 | (apply evOps_yes; (case hg => rfl); (case hb => (simp [gval, dstB, h30, sp30, decL_enc, hr, Xt.enc]; done)); (case h => (simp [evStep, evPure, h30, sp30, decL_enc, hr, Xt.enc]; with_reducible rfl)); skip)
 | (apply evOps_no; (case hg => rfl); (case hb => (simp [gval, dstB, h30, sp30, decL_enc, hr, Xt.enc]; with_reducible rfl)); (case hne => (simp; done)); (case hd => (simp [dstB]; done)); skip)
 | (apply evOps_big; (case hg => rfl); (case hd => (simp [dstB]; done)); (case hb => (simp [evBig, evStep, evPure, h30, sp30, decL_enc, hr, Xt.enc]; with_reducible rfl)); skip)
 | (apply evOps_bigYes; (case hg => rfl); (case hgv => (simp [gval, dstB, h30, sp30, decL_enc, hr, Xt.enc]; done)); (case hd => (simp [dstB]; done)); (case hb => (simp [evBig, evStep, evPure, h30, sp30, decL_enc, hr, Xt.enc]; with_reducible rfl)); skip)
 | (apply evOps_split; (case _hg => rfl); (case _ht => rfl); (case hb => (simp [dstB]; with_reducible rfl)); (case hv => ((fail_if_success (with_reducible exact (rfl : (_ : AV) = AV.d (.val (.bool true)) _))); (fail_if_success (with_reducible exact (rfl : (_ : AV) = AV.d (.val (.bool false)) _))); rfl)); skip)
 | (apply WP_cond; (case hx => (simp [St.eval, dstB, h30, sp30, decL_enc, hr, Xt.enc]; with_reducible rfl)); (case hv => rfl); skip))
    all_goals simp [Fin1, resVals, ownOf, FinList1, FinOne1, FinWr1, nodupB, Try.results11, out11, hr, evStep, evPure]
  · repeat' (first
 | (intro h; first | (exfalso; exact Bool.noConfusion h) | (simp only [decide_eq_true_eq, decide_eq_false_iff_not] at h) | skip)
 | (apply evOps_fin; (case hf => (simp only [finGo, app1]; rfl)); skip)
 | refine WP_seq ?_
 | refine WP_scope ?_
 | refine WP_block ?_
 | refine WP_ret ?_
 | refine WP_skip ?_
 | refine WP_exit ?_
 | (apply WP_region; (case hl => rfl); (case hc => (simp only [put_env', put_own', put_ctr', put_none', setOwn_env', setOwn_own', setOwn_ctr', setCtr_env', setCtr_own', setCtr_ctr', entry, entryEnv, entryOwn, inAV, scAV, inOB]; rfl)); (case hc' => (conv => lhs; simp only [List.size_toArray, List.length_cons, List.length_nil, Nat.zero_add, Nat.reduceAdd, Nat.add_assoc])); skip)
 | refine evOps_nil ?_
 | (apply evOps_one; (case hg => rfl); (case h => (simp [evStep, evPure, h30, sp30, decL_enc, hr, Xt.enc, h31, E10_31]; with_reducible rfl)); skip)
 | (apply evOps_yes; (case hg => rfl); (case hb => (simp [gval, dstB, h30, sp30, decL_enc, hr, Xt.enc, h31, E10_31]; done)); (case h => (simp [evStep, evPure, h30, sp30, decL_enc, hr, Xt.enc, h31, E10_31]; with_reducible rfl)); skip)
 | (apply evOps_no; (case hg => rfl); (case hb => (simp [gval, dstB, h30, sp30, decL_enc, hr, Xt.enc, h31, E10_31]; with_reducible rfl)); (case hne => (simp; done)); (case hd => (simp [dstB]; done)); skip)
 | (apply evOps_big; (case hg => rfl); (case hd => (simp [dstB]; done)); (case hb => (simp [evBig, evStep, evPure, h30, sp30, decL_enc, hr, Xt.enc, h31, E10_31]; with_reducible rfl)); skip)
 | (apply evOps_bigYes; (case hg => rfl); (case hgv => (simp [gval, dstB, h30, sp30, decL_enc, hr, Xt.enc, h31, E10_31]; done)); (case hd => (simp [dstB]; done)); (case hb => (simp [evBig, evStep, evPure, h30, sp30, decL_enc, hr, Xt.enc, h31, E10_31]; with_reducible rfl)); skip)
 | (apply evOps_split; (case _hg => rfl); (case _ht => rfl); (case hb => (simp [dstB]; with_reducible rfl)); (case hv => ((fail_if_success (with_reducible exact (rfl : (_ : AV) = AV.d (.val (.bool true)) _))); (fail_if_success (with_reducible exact (rfl : (_ : AV) = AV.d (.val (.bool false)) _))); rfl)); skip)
 | (apply WP_cond; (case hx => (simp [St.eval, dstB, h30, sp30, decL_enc, hr, Xt.enc, h31, E10_31]; with_reducible rfl)); (case hv => rfl); skip))
    refine ⟨by simp [Try.ntmps31], ?_⟩
    show WP _ _ _ _ _ _ _ (Code.seq _ _) _ _
    repeat' (first
 | (intro h; first | (exfalso; exact Bool.noConfusion h) | (simp only [decide_eq_true_eq, decide_eq_false_iff_not] at h) | skip)
 | (apply evOps_fin; (case hf => (simp only [finGo, app1]; rfl)); skip)
 | refine WP_seq ?_
 | refine WP_scope ?_
 | refine WP_block ?_
 | refine WP_ret ?_
 | refine WP_skip ?_
 | refine WP_exit ?_
 | (apply WP_region; (case hl => rfl); (case hc => (simp only [put_env', put_own', put_ctr', put_none', setOwn_env', setOwn_own', setOwn_ctr', setCtr_env', setCtr_own', setCtr_ctr', entry, entryEnv, entryOwn, inAV, scAV, inOB]; rfl)); (case hc' => (conv => lhs; simp only [List.size_toArray, List.length_cons, List.length_nil, Nat.zero_add, Nat.reduceAdd, Nat.add_assoc])); skip)
 | refine evOps_nil ?_
 | (apply evOps_one; (case hg => rfl); (case h => (simp [evStep, evPure, envOf]; with_reducible rfl)); skip)
 | (apply evOps_yes; (case hg => rfl); (case hb => (simp [gval, dstB, envOf]; done)); (case h => (simp [evStep, evPure, envOf]; with_reducible rfl)); skip)
 | (apply evOps_no; (case hg => rfl); (case hb => (simp [gval, dstB, envOf]; with_reducible rfl)); (case hne => (simp; done)); (case hd => (simp [dstB]; done)); skip)
 | (apply evOps_big; (case hg => rfl); (case hd => (simp [dstB]; done)); (case hb => (simp [evBig, evStep, evPure, envOf]; with_reducible rfl)); skip)
 | (apply evOps_bigYes; (case hg => rfl); (case hgv => (simp [gval, dstB, envOf]; done)); (case hd => (simp [dstB]; done)); (case hb => (simp [evBig, evStep, evPure, envOf]; with_reducible rfl)); skip)
 | (apply evOps_split; (case _hg => rfl); (case _ht => rfl); (case hb => (simp [dstB]; with_reducible rfl)); (case hv => ((fail_if_success (with_reducible exact (rfl : (_ : AV) = AV.d (.val (.bool true)) _))); (fail_if_success (with_reducible exact (rfl : (_ : AV) = AV.d (.val (.bool false)) _))); rfl)); skip)
 | (apply WP_cond; (case hx => (simp [St.eval, dstB, envOf]; with_reducible rfl)); (case hv => rfl); skip))
    simp only []
    refine ⟨_, (by simp [resVals, Try.results31, dstB]; with_reducible rfl), ?_⟩
    show evOps _ _ _ _ _ _ _ _ _ _ _
    repeat' (first
 | (intro h; first | (exfalso; exact Bool.noConfusion h) | (simp only [decide_eq_true_eq, decide_eq_false_iff_not] at h) | skip)
 | (apply evOps_fin; (case hf => (simp only [finGo, app1]; rfl)); skip)
 | refine WP_seq ?_
 | refine WP_scope ?_
 | refine WP_block ?_
 | refine WP_ret ?_
 | refine WP_skip ?_
 | refine WP_exit ?_
 | (apply WP_region; (case hl => rfl); (case hc => (simp only [put_env', put_own', put_ctr', put_none', setOwn_env', setOwn_own', setOwn_ctr', setCtr_env', setCtr_own', setCtr_ctr', entry, entryEnv, entryOwn, inAV, scAV, inOB]; rfl)); (case hc' => (conv => lhs; simp only [List.size_toArray, List.length_cons, List.length_nil, Nat.zero_add, Nat.reduceAdd, Nat.add_assoc])); skip)
 | refine evOps_nil ?_
 | (apply evOps_one; (case hg => rfl); (case h => (simp [evStep, evPure, envOf]; with_reducible rfl)); skip)
 | (apply evOps_yes; (case hg => rfl); (case hb => (simp [gval, dstB, envOf]; done)); (case h => (simp [evStep, evPure, envOf]; with_reducible rfl)); skip)
 | (apply evOps_no; (case hg => rfl); (case hb => (simp [gval, dstB, envOf]; with_reducible rfl)); (case hne => (simp; done)); (case hd => (simp [dstB]; done)); skip)
 | (apply evOps_big; (case hg => rfl); (case hd => (simp [dstB]; done)); (case hb => (simp [evBig, evStep, evPure, envOf]; with_reducible rfl)); skip)
 | (apply evOps_bigYes; (case hg => rfl); (case hgv => (simp [gval, dstB, envOf]; done)); (case hd => (simp [dstB]; done)); (case hb => (simp [evBig, evStep, evPure, envOf]; with_reducible rfl)); skip)
 | (apply evOps_split; (case _hg => rfl); (case _ht => rfl); (case hb => (simp [dstB]; with_reducible rfl)); (case hv => ((fail_if_success (with_reducible exact (rfl : (_ : AV) = AV.d (.val (.bool true)) _))); (fail_if_success (with_reducible exact (rfl : (_ : AV) = AV.d (.val (.bool false)) _))); rfl)); skip)
 | (apply WP_cond; (case hx => (simp [St.eval, dstB, envOf]; with_reducible rfl)); (case hv => rfl); skip))
    have hck : checkX l = true := by simp [rangedX] at hr; exact hr.1
    have hlen := check_len hck
    refine ⟨rfl, 55, [.rp 1003 13 0 0, .rp 1004 14 0 0, .rp 1005 15 0 0], _, (by simp [St.eval, dstB, packAV]), rfl, (by simp [Try.ntmps11]), fun rec => ?_⟩
    refine split_walk h23 h56 (Inv11 n l p q 13 14 15 8 19 false false false false (rec .ready none)) (by omega) ?hI (fun d σ h => h.2.1) ?hY ?hK ?h0
    case hI =>
      rintro d σ σ' hx hc ⟨h1, ⟨h2, h3, h4⟩, ⟨v, h5, h6⟩⟩
      refine ⟨(hx 999 (by decide)).trans h1, ⟨(hx 1003 (by decide)).trans h2, (hx 1004 (by decide)).trans h3, (hx 1005 (by decide)).trans h4⟩, ⟨v, (hx 8 (by decide)).trans h5, ?_⟩⟩
      rw [hx 32 (by decide)]; exact h6
    case h0 =>
      refine ⟨by simp [dstB, lpName], ⟨?_, ?_, ?_⟩, ⟨_, ?_, .inl ⟨rfl, rfl⟩⟩⟩
      all_goals simp [dstB, lpName]
    case hK =>
      intro σe hc he hinv
      obtain ⟨o999, -, ⟨v8, o8, hv8⟩⟩ := hinv
      refine .inl ⟨o999, ?_⟩
      have e8 : σe.env 8 = .rp 8 8 0 0 := by rw [he]; simp [dstB]
      clear he hc o999
      obtain ⟨m, hm⟩ : ∃ m, markX (piecesX p q l) = m := ⟨_, rfl⟩
      have hm1 : m.length ≤ 1000 := by
        have h1 := piecesX_len p q l
        have h2 := markX_len (piecesX p q l)
        rw [hm] at h2
        omega
      rw [hm] at hv8
      have htk : List.take m.length (m.map Xt.enc) = m.map Xt.enc := List.take_of_length_le (by simp)
      have htk2 : List.take (mergeX m).length ((mergeX m).map Xt.enc) = (mergeX m).map Xt.enc := List.take_of_length_le (by simp)
      rcases hv8 with ⟨h0, rfl⟩ | ⟨hne, g, fr, rfl, o32⟩
      · subst h0
        repeat' (first
 | (intro h; first | (exfalso; exact Bool.noConfusion h) | (simp only [decide_eq_true_eq, decide_eq_false_iff_not] at h) | skip)
 | (apply evOps_fin; (case hf => (simp only [finGo, app1]; rfl)); skip)
 | refine WP_seq ?_
 | refine WP_scope ?_
 | refine WP_block ?_
 | refine WP_ret ?_
 | refine WP_skip ?_
 | refine WP_exit ?_
 | (apply WP_region; (case hl => rfl); (case hc => (simp only [put_env', put_own', put_ctr', put_none', setOwn_env', setOwn_own', setOwn_ctr', setCtr_env', setCtr_own', setCtr_ctr', entry, entryEnv, entryOwn, inAV, scAV, inOB]; rfl)); (case hc' => (conv => lhs; simp only [List.size_toArray, List.length_cons, List.length_nil, Nat.zero_add, Nat.reduceAdd, Nat.add_assoc])); skip)
 | refine evOps_nil ?_
 | (apply evOps_one; (case hg => rfl); (case h => (simp [evStep, evPure, e8, o8, lpName, decL_enc, decL, htk, htk2, hm1, h29, sp29, List.filter_cons, mergeX_nil]; with_reducible rfl)); skip)
 | (apply evOps_yes; (case hg => rfl); (case hb => (simp [gval, dstB, e8, o8, lpName, decL_enc, decL, htk, htk2, hm1, h29, sp29, List.filter_cons, mergeX_nil]; done)); (case h => (simp [evStep, evPure, e8, o8, lpName, decL_enc, decL, htk, htk2, hm1, h29, sp29, List.filter_cons, mergeX_nil]; with_reducible rfl)); skip)
 | (apply evOps_no; (case hg => rfl); (case hb => (simp [gval, dstB, e8, o8, lpName, decL_enc, decL, htk, htk2, hm1, h29, sp29, List.filter_cons, mergeX_nil]; with_reducible rfl)); (case hne => (simp; done)); (case hd => (simp [dstB]; done)); skip)
 | (apply evOps_big; (case hg => rfl); (case hd => (simp [dstB]; done)); (case hb => (simp [evBig, evStep, evPure, e8, o8, lpName, decL_enc, decL, htk, htk2, hm1, h29, sp29, List.filter_cons, mergeX_nil]; with_reducible rfl)); skip)
 | (apply evOps_bigYes; (case hg => rfl); (case hgv => (simp [gval, dstB, e8, o8, lpName, decL_enc, decL, htk, htk2, hm1, h29, sp29, List.filter_cons, mergeX_nil]; done)); (case hd => (simp [dstB]; done)); (case hb => (simp [evBig, evStep, evPure, e8, o8, lpName, decL_enc, decL, htk, htk2, hm1, h29, sp29, List.filter_cons, mergeX_nil]; with_reducible rfl)); skip)
 | (apply evOps_split; (case _hg => rfl); (case _ht => rfl); (case hb => (simp [dstB]; with_reducible rfl)); (case hv => ((fail_if_success (with_reducible exact (rfl : (_ : AV) = AV.d (.val (.bool true)) _))); (fail_if_success (with_reducible exact (rfl : (_ : AV) = AV.d (.val (.bool false)) _))); rfl)); skip)
 | (apply WP_cond; (case hx => (simp [St.eval, dstB, e8, o8, lpName, decL_enc, decL, htk, htk2, hm1, h29, sp29, List.filter_cons, mergeX_nil]; with_reducible rfl)); (case hv => rfl); skip))
        all_goals simp [Fin1, resVals, ownOf, FinList1, FinOne1, FinWr1, nodupB, Try.results11, out11, outSl, hr, hm, htk, htk2, mergeX_nil, evStep, evPure]
      · have hne2 : mergeX m ≠ [] := mergeX_ne hne
        by_cases h60 : (mergeX m).length > 60
        · repeat' (first
 | (intro h; first | (exfalso; exact Bool.noConfusion h) | (simp only [decide_eq_true_eq, decide_eq_false_iff_not] at h) | skip)
 | (apply evOps_fin; (case hf => (simp only [finGo, app1]; rfl)); skip)
 | refine WP_seq ?_
 | refine WP_scope ?_
 | refine WP_block ?_
 | refine WP_ret ?_
 | refine WP_skip ?_
 | refine WP_exit ?_
 | (apply WP_region; (case hl => rfl); (case hc => (simp only [put_env', put_own', put_ctr', put_none', setOwn_env', setOwn_own', setOwn_ctr', setCtr_env', setCtr_own', setCtr_ctr', entry, entryEnv, entryOwn, inAV, scAV, inOB]; rfl)); (case hc' => (conv => lhs; simp only [List.size_toArray, List.length_cons, List.length_nil, Nat.zero_add, Nat.reduceAdd, Nat.add_assoc])); skip)
 | refine evOps_nil ?_
 | (apply evOps_one; (case hg => rfl); (case h => (simp [evStep, evPure, e8, o8, lpName, decL_enc, decL, htk, htk2, hm1, h29, sp29, List.filter_cons, mergeX_nil, o32, hne, h60]; with_reducible rfl)); skip)
 | (apply evOps_yes; (case hg => rfl); (case hb => (simp [gval, dstB, e8, o8, lpName, decL_enc, decL, htk, htk2, hm1, h29, sp29, List.filter_cons, mergeX_nil, o32, hne, h60]; done)); (case h => (simp [evStep, evPure, e8, o8, lpName, decL_enc, decL, htk, htk2, hm1, h29, sp29, List.filter_cons, mergeX_nil, o32, hne, h60]; with_reducible rfl)); skip)
 | (apply evOps_no; (case hg => rfl); (case hb => (simp [gval, dstB, e8, o8, lpName, decL_enc, decL, htk, htk2, hm1, h29, sp29, List.filter_cons, mergeX_nil, o32, hne, h60]; with_reducible rfl)); (case hne => (simp; done)); (case hd => (simp [dstB]; done)); skip)
 | (apply evOps_big; (case hg => rfl); (case hd => (simp [dstB]; done)); (case hb => (simp [evBig, evStep, evPure, e8, o8, lpName, decL_enc, decL, htk, htk2, hm1, h29, sp29, List.filter_cons, mergeX_nil, o32, hne, h60]; with_reducible rfl)); skip)
 | (apply evOps_bigYes; (case hg => rfl); (case hgv => (simp [gval, dstB, e8, o8, lpName, decL_enc, decL, htk, htk2, hm1, h29, sp29, List.filter_cons, mergeX_nil, o32, hne, h60]; done)); (case hd => (simp [dstB]; done)); (case hb => (simp [evBig, evStep, evPure, e8, o8, lpName, decL_enc, decL, htk, htk2, hm1, h29, sp29, List.filter_cons, mergeX_nil, o32, hne, h60]; with_reducible rfl)); skip)
 | (apply evOps_split; (case _hg => rfl); (case _ht => rfl); (case hb => (simp [dstB]; with_reducible rfl)); (case hv => ((fail_if_success (with_reducible exact (rfl : (_ : AV) = AV.d (.val (.bool true)) _))); (fail_if_success (with_reducible exact (rfl : (_ : AV) = AV.d (.val (.bool false)) _))); rfl)); skip)
 | (apply WP_cond; (case hx => (simp [St.eval, dstB, e8, o8, lpName, decL_enc, decL, htk, htk2, hm1, h29, sp29, List.filter_cons, mergeX_nil, o32, hne, h60]; with_reducible rfl)); (case hv => rfl); skip))
          all_goals simp [Fin1, resVals, ownOf, FinList1, FinOne1, FinWr1, nodupB, Try.results11, out11, outSl, hr, hm, htk, htk2, mergeX_nil, hne, hne2, h60, evStep, evPure]
        · repeat' (first
 | (intro h; first | (exfalso; exact Bool.noConfusion h) | (simp only [decide_eq_true_eq, decide_eq_false_iff_not] at h) | skip)
 | (apply evOps_fin; (case hf => (simp only [finGo, app1]; rfl)); skip)
 | refine WP_seq ?_
 | refine WP_scope ?_
 | refine WP_block ?_
 | refine WP_ret ?_
 | refine WP_skip ?_
 | refine WP_exit ?_
 | (apply WP_region; (case hl => rfl); (case hc => (simp only [put_env', put_own', put_ctr', put_none', setOwn_env', setOwn_own', setOwn_ctr', setCtr_env', setCtr_own', setCtr_ctr', entry, entryEnv, entryOwn, inAV, scAV, inOB]; rfl)); (case hc' => (conv => lhs; simp only [List.size_toArray, List.length_cons, List.length_nil, Nat.zero_add, Nat.reduceAdd, Nat.add_assoc])); skip)
 | refine evOps_nil ?_
 | (apply evOps_one; (case hg => rfl); (case h => (simp [evStep, evPure, e8, o8, lpName, decL_enc, decL, htk, htk2, hm1, h29, sp29, List.filter_cons, mergeX_nil, o32, hne, h60]; with_reducible rfl)); skip)
 | (apply evOps_yes; (case hg => rfl); (case hb => (simp [gval, dstB, e8, o8, lpName, decL_enc, decL, htk, htk2, hm1, h29, sp29, List.filter_cons, mergeX_nil, o32, hne, h60]; done)); (case h => (simp [evStep, evPure, e8, o8, lpName, decL_enc, decL, htk, htk2, hm1, h29, sp29, List.filter_cons, mergeX_nil, o32, hne, h60]; with_reducible rfl)); skip)
 | (apply evOps_no; (case hg => rfl); (case hb => (simp [gval, dstB, e8, o8, lpName, decL_enc, decL, htk, htk2, hm1, h29, sp29, List.filter_cons, mergeX_nil, o32, hne, h60]; with_reducible rfl)); (case hne => (simp; done)); (case hd => (simp [dstB]; done)); skip)
 | (apply evOps_big; (case hg => rfl); (case hd => (simp [dstB]; done)); (case hb => (simp [evBig, evStep, evPure, e8, o8, lpName, decL_enc, decL, htk, htk2, hm1, h29, sp29, List.filter_cons, mergeX_nil, o32, hne, h60]; with_reducible rfl)); skip)
 | (apply evOps_bigYes; (case hg => rfl); (case hgv => (simp [gval, dstB, e8, o8, lpName, decL_enc, decL, htk, htk2, hm1, h29, sp29, List.filter_cons, mergeX_nil, o32, hne, h60]; done)); (case hd => (simp [dstB]; done)); (case hb => (simp [evBig, evStep, evPure, e8, o8, lpName, decL_enc, decL, htk, htk2, hm1, h29, sp29, List.filter_cons, mergeX_nil, o32, hne, h60]; with_reducible rfl)); skip)
 | (apply evOps_split; (case _hg => rfl); (case _ht => rfl); (case hb => (simp [dstB]; with_reducible rfl)); (case hv => ((fail_if_success (with_reducible exact (rfl : (_ : AV) = AV.d (.val (.bool true)) _))); (fail_if_success (with_reducible exact (rfl : (_ : AV) = AV.d (.val (.bool false)) _))); rfl)); skip)
 | (apply WP_cond; (case hx => (simp [St.eval, dstB, e8, o8, lpName, decL_enc, decL, htk, htk2, hm1, h29, sp29, List.filter_cons, mergeX_nil, o32, hne, h60]; with_reducible rfl)); (case hv => rfl); skip))
          all_goals simp [Fin1, resVals, ownOf, FinList1, FinOne1, FinWr1, nodupB, Try.results11, out11, outSl, hr, hm, htk, htk2, mergeX_nil, hne, hne2, h60, evStep, evPure]
    case hY =>
      intro d pc rest σi K' heq hinv hk
      obtain ⟨⟨xa, xs, xl, xu⟩, b⟩ := pc
      obtain ⟨o999, ⟨b3, b4, b5⟩, ⟨v8, o8, hv8⟩⟩ := hinv
      have hdl : d.length + 1 ≤ 180 := by
        have h1 := piecesX_len p q l
        rw [heq] at h1
        simp only [List.length_append, List.length_cons] at h1
        omega
      have hll := markX_len d
      refine ⟨rfl, rfl, rfl, o999, ?_⟩
      rcases hv8 with ⟨hL, rfl⟩ | ⟨hL, g, fr, rfl, o32⟩
      · have hb1 : True := trivial
        have hb2 : True := trivial
        cases xu
        · cases b
          · repeat' (first
 | (intro h; first | (exfalso; exact Bool.noConfusion h) | (simp only [decide_eq_true_eq, decide_eq_false_iff_not] at h) | skip)
 | (apply evOps_fin; (case hf => (simp only [finGo, app1]; rfl)); skip)
 | refine WP_seq ?_
 | refine WP_scope ?_
 | refine WP_block ?_
 | refine WP_ret ?_
 | refine WP_skip ?_
 | refine WP_exit ?_
 | (apply WP_region; (case hl => rfl); (case hc => (simp only [put_env', put_own', put_ctr', put_none', setOwn_env', setOwn_own', setOwn_ctr', setCtr_env', setCtr_own', setCtr_ctr', entry, entryEnv, entryOwn, inAV, scAV, inOB]; rfl)); (case hc' => (conv => lhs; simp only [List.size_toArray, List.length_cons, List.length_nil, Nat.zero_add, Nat.reduceAdd, Nat.add_assoc])); skip)
 | refine evOps_nil ?_
 | (apply evOps_one; (case hg => rfl); (case h => (simp [evStep, evPure, o999, b3, b4, b5, o8, putParams, lpName, lpOB, Xt.enc, hL, hb1, hb2]; with_reducible rfl)); skip)
 | (apply evOps_yes; (case hg => rfl); (case hb => (simp [gval, dstB, o999, b3, b4, b5, o8, putParams, lpName, lpOB, Xt.enc, hL, hb1, hb2]; done)); (case h => (simp [evStep, evPure, o999, b3, b4, b5, o8, putParams, lpName, lpOB, Xt.enc, hL, hb1, hb2]; with_reducible rfl)); skip)
 | (apply evOps_no; (case hg => rfl); (case hb => (simp [gval, dstB, o999, b3, b4, b5, o8, putParams, lpName, lpOB, Xt.enc, hL, hb1, hb2]; with_reducible rfl)); (case hne => (simp; done)); (case hd => (simp [dstB]; done)); skip)
 | (apply evOps_big; (case hg => rfl); (case hd => (simp [dstB]; done)); (case hb => (simp [evBig, evStep, evPure, o999, b3, b4, b5, o8, putParams, lpName, lpOB, Xt.enc, hL, hb1, hb2]; with_reducible rfl)); skip)
 | (apply evOps_bigYes; (case hg => rfl); (case hgv => (simp [gval, dstB, o999, b3, b4, b5, o8, putParams, lpName, lpOB, Xt.enc, hL, hb1, hb2]; done)); (case hd => (simp [dstB]; done)); (case hb => (simp [evBig, evStep, evPure, o999, b3, b4, b5, o8, putParams, lpName, lpOB, Xt.enc, hL, hb1, hb2]; with_reducible rfl)); skip)
 | (apply evOps_split; (case _hg => rfl); (case _ht => rfl); (case hb => (simp [dstB]; with_reducible rfl)); (case hv => ((fail_if_success (with_reducible exact (rfl : (_ : AV) = AV.d (.val (.bool true)) _))); (fail_if_success (with_reducible exact (rfl : (_ : AV) = AV.d (.val (.bool false)) _))); rfl)); skip)
 | (apply WP_cond; (case hx => (simp [St.eval, dstB, o999, b3, b4, b5, o8, putParams, lpName, lpOB, Xt.enc, hL, hb1, hb2]; with_reducible rfl)); (case hv => rfl); skip))
            refine ⟨rfl, ?_, ?_⟩
            · simp [dstB, o999, lpName]
            repeat' (first
 | (intro h; first | (exfalso; exact Bool.noConfusion h) | (simp only [decide_eq_true_eq, decide_eq_false_iff_not] at h) | skip)
 | (apply evOps_fin; (case hf => (simp only [finGo, app1]; rfl)); skip)
 | refine WP_seq ?_
 | refine WP_scope ?_
 | refine WP_block ?_
 | refine WP_ret ?_
 | refine WP_skip ?_
 | refine WP_exit ?_
 | (apply WP_region; (case hl => rfl); (case hc => (simp only [put_env', put_own', put_ctr', put_none', setOwn_env', setOwn_own', setOwn_ctr', setCtr_env', setCtr_own', setCtr_ctr', entry, entryEnv, entryOwn, inAV, scAV, inOB]; rfl)); (case hc' => (conv => lhs; simp only [List.size_toArray, List.length_cons, List.length_nil, Nat.zero_add, Nat.reduceAdd, Nat.add_assoc])); skip)
 | refine evOps_nil ?_
 | (apply evOps_one; (case hg => rfl); (case h => (simp [evStep, evPure, o999, b3, b4, b5, o8, putParams, lpName, lpOB, Xt.enc, hL, hb1, hb2]; with_reducible rfl)); skip)
 | (apply evOps_yes; (case hg => rfl); (case hb => (simp [gval, dstB, o999, b3, b4, b5, o8, putParams, lpName, lpOB, Xt.enc, hL, hb1, hb2]; done)); (case h => (simp [evStep, evPure, o999, b3, b4, b5, o8, putParams, lpName, lpOB, Xt.enc, hL, hb1, hb2]; with_reducible rfl)); skip)
 | (apply evOps_no; (case hg => rfl); (case hb => (simp [gval, dstB, o999, b3, b4, b5, o8, putParams, lpName, lpOB, Xt.enc, hL, hb1, hb2]; with_reducible rfl)); (case hne => (simp; done)); (case hd => (simp [dstB]; done)); skip)
 | (apply evOps_big; (case hg => rfl); (case hd => (simp [dstB]; done)); (case hb => (simp [evBig, evStep, evPure, o999, b3, b4, b5, o8, putParams, lpName, lpOB, Xt.enc, hL, hb1, hb2]; with_reducible rfl)); skip)
 | (apply evOps_bigYes; (case hg => rfl); (case hgv => (simp [gval, dstB, o999, b3, b4, b5, o8, putParams, lpName, lpOB, Xt.enc, hL, hb1, hb2]; done)); (case hd => (simp [dstB]; done)); (case hb => (simp [evBig, evStep, evPure, o999, b3, b4, b5, o8, putParams, lpName, lpOB, Xt.enc, hL, hb1, hb2]; with_reducible rfl)); skip)
 | (apply evOps_split; (case _hg => rfl); (case _ht => rfl); (case hb => (simp [dstB]; with_reducible rfl)); (case hv => ((fail_if_success (with_reducible exact (rfl : (_ : AV) = AV.d (.val (.bool true)) _))); (fail_if_success (with_reducible exact (rfl : (_ : AV) = AV.d (.val (.bool false)) _))); rfl)); skip)
 | (apply WP_cond; (case hx => (simp [St.eval, dstB, o999, b3, b4, b5, o8, putParams, lpName, lpOB, Xt.enc, hL, hb1, hb2]; with_reducible rfl)); (case hv => rfl); skip))
            refine ⟨by simp [dstB, lpName, lpOB], ?_⟩
            refine hk _ rfl ?_ ?_ ?_
            · simp [dstB]; try omega
            · intro y hy
              have q1 : ¬ y = 8 := by omega
              have q2 : ¬ y = 9 := by omega
              have q3 : ¬ y = 31 := by omega
              have q4 : ¬ y = 32 := by omega
              have q8 : ¬ y = 999 := by omega
              simp [dstB, lpName, q1, q2, q3, q4, q8]
            · refine ⟨by simp [dstB, lpName, lpOB], ⟨by simp [dstB, lpName, b3], by simp [dstB, lpName, b4], by simp [dstB, lpName, b5]⟩, ⟨.rs 32 (σi.ctr + 11 + 3) 0 1, (by simp [dstB, lpName, hL]), .inr ⟨by rw [markX_snoc]; simp, (σi.ctr + 11 + 3), true, (by rw [markX_snoc]; simp [hL]), (by rw [markX_snoc]; simp [dstB, lpName, hL, Xt.enc])⟩⟩⟩
          · repeat' (first
 | (intro h; first | (exfalso; exact Bool.noConfusion h) | (simp only [decide_eq_true_eq, decide_eq_false_iff_not] at h) | skip)
 | (apply evOps_fin; (case hf => (simp only [finGo, app1]; rfl)); skip)
 | refine WP_seq ?_
 | refine WP_scope ?_
 | refine WP_block ?_
 | refine WP_ret ?_
 | refine WP_skip ?_
 | refine WP_exit ?_
 | (apply WP_region; (case hl => rfl); (case hc => (simp only [put_env', put_own', put_ctr', put_none', setOwn_env', setOwn_own', setOwn_ctr', setCtr_env', setCtr_own', setCtr_ctr', entry, entryEnv, entryOwn, inAV, scAV, inOB]; rfl)); (case hc' => (conv => lhs; simp only [List.size_toArray, List.length_cons, List.length_nil, Nat.zero_add, Nat.reduceAdd, Nat.add_assoc])); skip)
 | refine evOps_nil ?_
 | (apply evOps_one; (case hg => rfl); (case h => (simp [evStep, evPure, o999, b3, b4, b5, o8, putParams, lpName, lpOB, Xt.enc, hL, hb1, hb2]; with_reducible rfl)); skip)
 | (apply evOps_yes; (case hg => rfl); (case hb => (simp [gval, dstB, o999, b3, b4, b5, o8, putParams, lpName, lpOB, Xt.enc, hL, hb1, hb2]; done)); (case h => (simp [evStep, evPure, o999, b3, b4, b5, o8, putParams, lpName, lpOB, Xt.enc, hL, hb1, hb2]; with_reducible rfl)); skip)
 | (apply evOps_no; (case hg => rfl); (case hb => (simp [gval, dstB, o999, b3, b4, b5, o8, putParams, lpName, lpOB, Xt.enc, hL, hb1, hb2]; with_reducible rfl)); (case hne => (simp; done)); (case hd => (simp [dstB]; done)); skip)
 | (apply evOps_big; (case hg => rfl); (case hd => (simp [dstB]; done)); (case hb => (simp [evBig, evStep, evPure, o999, b3, b4, b5, o8, putParams, lpName, lpOB, Xt.enc, hL, hb1, hb2]; with_reducible rfl)); skip)
 | (apply evOps_bigYes; (case hg => rfl); (case hgv => (simp [gval, dstB, o999, b3, b4, b5, o8, putParams, lpName, lpOB, Xt.enc, hL, hb1, hb2]; done)); (case hd => (simp [dstB]; done)); (case hb => (simp [evBig, evStep, evPure, o999, b3, b4, b5, o8, putParams, lpName, lpOB, Xt.enc, hL, hb1, hb2]; with_reducible rfl)); skip)
 | (apply evOps_split; (case _hg => rfl); (case _ht => rfl); (case hb => (simp [dstB]; with_reducible rfl)); (case hv => ((fail_if_success (with_reducible exact (rfl : (_ : AV) = AV.d (.val (.bool true)) _))); (fail_if_success (with_reducible exact (rfl : (_ : AV) = AV.d (.val (.bool false)) _))); rfl)); skip)
 | (apply WP_cond; (case hx => (simp [St.eval, dstB, o999, b3, b4, b5, o8, putParams, lpName, lpOB, Xt.enc, hL, hb1, hb2]; with_reducible rfl)); (case hv => rfl); skip))
            refine ⟨rfl, ?_, ?_⟩
            · simp [dstB, o999, lpName]
            repeat' (first
 | (intro h; first | (exfalso; exact Bool.noConfusion h) | (simp only [decide_eq_true_eq, decide_eq_false_iff_not] at h) | skip)
 | (apply evOps_fin; (case hf => (simp only [finGo, app1]; rfl)); skip)
 | refine WP_seq ?_
 | refine WP_scope ?_
 | refine WP_block ?_
 | refine WP_ret ?_
 | refine WP_skip ?_
 | refine WP_exit ?_
 | (apply WP_region; (case hl => rfl); (case hc => (simp only [put_env', put_own', put_ctr', put_none', setOwn_env', setOwn_own', setOwn_ctr', setCtr_env', setCtr_own', setCtr_ctr', entry, entryEnv, entryOwn, inAV, scAV, inOB]; rfl)); (case hc' => (conv => lhs; simp only [List.size_toArray, List.length_cons, List.length_nil, Nat.zero_add, Nat.reduceAdd, Nat.add_assoc])); skip)
 | refine evOps_nil ?_
 | (apply evOps_one; (case hg => rfl); (case h => (simp [evStep, evPure, o999, b3, b4, b5, o8, putParams, lpName, lpOB, Xt.enc, hL, hb1, hb2]; with_reducible rfl)); skip)
 | (apply evOps_yes; (case hg => rfl); (case hb => (simp [gval, dstB, o999, b3, b4, b5, o8, putParams, lpName, lpOB, Xt.enc, hL, hb1, hb2]; done)); (case h => (simp [evStep, evPure, o999, b3, b4, b5, o8, putParams, lpName, lpOB, Xt.enc, hL, hb1, hb2]; with_reducible rfl)); skip)
 | (apply evOps_no; (case hg => rfl); (case hb => (simp [gval, dstB, o999, b3, b4, b5, o8, putParams, lpName, lpOB, Xt.enc, hL, hb1, hb2]; with_reducible rfl)); (case hne => (simp; done)); (case hd => (simp [dstB]; done)); skip)
 | (apply evOps_big; (case hg => rfl); (case hd => (simp [dstB]; done)); (case hb => (simp [evBig, evStep, evPure, o999, b3, b4, b5, o8, putParams, lpName, lpOB, Xt.enc, hL, hb1, hb2]; with_reducible rfl)); skip)
 | (apply evOps_bigYes; (case hg => rfl); (case hgv => (simp [gval, dstB, o999, b3, b4, b5, o8, putParams, lpName, lpOB, Xt.enc, hL, hb1, hb2]; done)); (case hd => (simp [dstB]; done)); (case hb => (simp [evBig, evStep, evPure, o999, b3, b4, b5, o8, putParams, lpName, lpOB, Xt.enc, hL, hb1, hb2]; with_reducible rfl)); skip)
 | (apply evOps_split; (case _hg => rfl); (case _ht => rfl); (case hb => (simp [dstB]; with_reducible rfl)); (case hv => ((fail_if_success (with_reducible exact (rfl : (_ : AV) = AV.d (.val (.bool true)) _))); (fail_if_success (with_reducible exact (rfl : (_ : AV) = AV.d (.val (.bool false)) _))); rfl)); skip)
 | (apply WP_cond; (case hx => (simp [St.eval, dstB, o999, b3, b4, b5, o8, putParams, lpName, lpOB, Xt.enc, hL, hb1, hb2]; with_reducible rfl)); (case hv => rfl); skip))
            refine ⟨by simp [dstB, lpName, lpOB], ?_⟩
            refine hk _ rfl ?_ ?_ ?_
            · simp [dstB]; try omega
            · intro y hy
              have q1 : ¬ y = 8 := by omega
              have q2 : ¬ y = 9 := by omega
              have q3 : ¬ y = 31 := by omega
              have q4 : ¬ y = 32 := by omega
              have q8 : ¬ y = 999 := by omega
              simp [dstB, lpName, q1, q2, q3, q4, q8]
            · refine ⟨by simp [dstB, lpName, lpOB], ⟨by simp [dstB, lpName, b3], by simp [dstB, lpName, b4], by simp [dstB, lpName, b5]⟩, ⟨.rs 32 (σi.ctr + 11 + 3) 0 1, (by simp [dstB, lpName, hL]), .inr ⟨by rw [markX_snoc]; simp, (σi.ctr + 11 + 3), true, (by rw [markX_snoc]; simp [hL]), (by rw [markX_snoc]; simp [dstB, lpName, hL, Xt.enc])⟩⟩⟩
        · cases b
          · repeat' (first
 | (intro h; first | (exfalso; exact Bool.noConfusion h) | (simp only [decide_eq_true_eq, decide_eq_false_iff_not] at h) | skip)
 | (apply evOps_fin; (case hf => (simp only [finGo, app1]; rfl)); skip)
 | refine WP_seq ?_
 | refine WP_scope ?_
 | refine WP_block ?_
 | refine WP_ret ?_
 | refine WP_skip ?_
 | refine WP_exit ?_
 | (apply WP_region; (case hl => rfl); (case hc => (simp only [put_env', put_own', put_ctr', put_none', setOwn_env', setOwn_own', setOwn_ctr', setCtr_env', setCtr_own', setCtr_ctr', entry, entryEnv, entryOwn, inAV, scAV, inOB]; rfl)); (case hc' => (conv => lhs; simp only [List.size_toArray, List.length_cons, List.length_nil, Nat.zero_add, Nat.reduceAdd, Nat.add_assoc])); skip)
 | refine evOps_nil ?_
 | (apply evOps_one; (case hg => rfl); (case h => (simp [evStep, evPure, o999, b3, b4, b5, o8, putParams, lpName, lpOB, Xt.enc, hL, hb1, hb2]; with_reducible rfl)); skip)
 | (apply evOps_yes; (case hg => rfl); (case hb => (simp [gval, dstB, o999, b3, b4, b5, o8, putParams, lpName, lpOB, Xt.enc, hL, hb1, hb2]; done)); (case h => (simp [evStep, evPure, o999, b3, b4, b5, o8, putParams, lpName, lpOB, Xt.enc, hL, hb1, hb2]; with_reducible rfl)); skip)
 | (apply evOps_no; (case hg => rfl); (case hb => (simp [gval, dstB, o999, b3, b4, b5, o8, putParams, lpName, lpOB, Xt.enc, hL, hb1, hb2]; with_reducible rfl)); (case hne => (simp; done)); (case hd => (simp [dstB]; done)); skip)
 | (apply evOps_big; (case hg => rfl); (case hd => (simp [dstB]; done)); (case hb => (simp [evBig, evStep, evPure, o999, b3, b4, b5, o8, putParams, lpName, lpOB, Xt.enc, hL, hb1, hb2]; with_reducible rfl)); skip)
 | (apply evOps_bigYes; (case hg => rfl); (case hgv => (simp [gval, dstB, o999, b3, b4, b5, o8, putParams, lpName, lpOB, Xt.enc, hL, hb1, hb2]; done)); (case hd => (simp [dstB]; done)); (case hb => (simp [evBig, evStep, evPure, o999, b3, b4, b5, o8, putParams, lpName, lpOB, Xt.enc, hL, hb1, hb2]; with_reducible rfl)); skip)
 | (apply evOps_split; (case _hg => rfl); (case _ht => rfl); (case hb => (simp [dstB]; with_reducible rfl)); (case hv => ((fail_if_success (with_reducible exact (rfl : (_ : AV) = AV.d (.val (.bool true)) _))); (fail_if_success (with_reducible exact (rfl : (_ : AV) = AV.d (.val (.bool false)) _))); rfl)); skip)
 | (apply WP_cond; (case hx => (simp [St.eval, dstB, o999, b3, b4, b5, o8, putParams, lpName, lpOB, Xt.enc, hL, hb1, hb2]; with_reducible rfl)); (case hv => rfl); skip))
            refine ⟨rfl, ?_, ?_⟩
            · simp [dstB, o999, lpName]
            repeat' (first
 | (intro h; first | (exfalso; exact Bool.noConfusion h) | (simp only [decide_eq_true_eq, decide_eq_false_iff_not] at h) | skip)
 | (apply evOps_fin; (case hf => (simp only [finGo, app1]; rfl)); skip)
 | refine WP_seq ?_
 | refine WP_scope ?_
 | refine WP_block ?_
 | refine WP_ret ?_
 | refine WP_skip ?_
 | refine WP_exit ?_
 | (apply WP_region; (case hl => rfl); (case hc => (simp only [put_env', put_own', put_ctr', put_none', setOwn_env', setOwn_own', setOwn_ctr', setCtr_env', setCtr_own', setCtr_ctr', entry, entryEnv, entryOwn, inAV, scAV, inOB]; rfl)); (case hc' => (conv => lhs; simp only [List.size_toArray, List.length_cons, List.length_nil, Nat.zero_add, Nat.reduceAdd, Nat.add_assoc])); skip)
 | refine evOps_nil ?_
 | (apply evOps_one; (case hg => rfl); (case h => (simp [evStep, evPure, o999, b3, b4, b5, o8, putParams, lpName, lpOB, Xt.enc, hL, hb1, hb2]; with_reducible rfl)); skip)
 | (apply evOps_yes; (case hg => rfl); (case hb => (simp [gval, dstB, o999, b3, b4, b5, o8, putParams, lpName, lpOB, Xt.enc, hL, hb1, hb2]; done)); (case h => (simp [evStep, evPure, o999, b3, b4, b5, o8, putParams, lpName, lpOB, Xt.enc, hL, hb1, hb2]; with_reducible rfl)); skip)
 | (apply evOps_no; (case hg => rfl); (case hb => (simp [gval, dstB, o999, b3, b4, b5, o8, putParams, lpName, lpOB, Xt.enc, hL, hb1, hb2]; with_reducible rfl)); (case hne => (simp; done)); (case hd => (simp [dstB]; done)); skip)
 | (apply evOps_big; (case hg => rfl); (case hd => (simp [dstB]; done)); (case hb => (simp [evBig, evStep, evPure, o999, b3, b4, b5, o8, putParams, lpName, lpOB, Xt.enc, hL, hb1, hb2]; with_reducible rfl)); skip)
 | (apply evOps_bigYes; (case hg => rfl); (case hgv => (simp [gval, dstB, o999, b3, b4, b5, o8, putParams, lpName, lpOB, Xt.enc, hL, hb1, hb2]; done)); (case hd => (simp [dstB]; done)); (case hb => (simp [evBig, evStep, evPure, o999, b3, b4, b5, o8, putParams, lpName, lpOB, Xt.enc, hL, hb1, hb2]; with_reducible rfl)); skip)
 | (apply evOps_split; (case _hg => rfl); (case _ht => rfl); (case hb => (simp [dstB]; with_reducible rfl)); (case hv => ((fail_if_success (with_reducible exact (rfl : (_ : AV) = AV.d (.val (.bool true)) _))); (fail_if_success (with_reducible exact (rfl : (_ : AV) = AV.d (.val (.bool false)) _))); rfl)); skip)
 | (apply WP_cond; (case hx => (simp [St.eval, dstB, o999, b3, b4, b5, o8, putParams, lpName, lpOB, Xt.enc, hL, hb1, hb2]; with_reducible rfl)); (case hv => rfl); skip))
            refine ⟨by simp [dstB, lpName, lpOB], ?_⟩
            refine hk _ rfl ?_ ?_ ?_
            · simp [dstB]; try omega
            · intro y hy
              have q1 : ¬ y = 8 := by omega
              have q2 : ¬ y = 9 := by omega
              have q3 : ¬ y = 31 := by omega
              have q4 : ¬ y = 32 := by omega
              have q8 : ¬ y = 999 := by omega
              simp [dstB, lpName, q1, q2, q3, q4, q8]
            · refine ⟨by simp [dstB, lpName, lpOB], ⟨by simp [dstB, lpName, b3], by simp [dstB, lpName, b4], by simp [dstB, lpName, b5]⟩, ⟨.rs 32 (σi.ctr + 11 + 3) 0 1, (by simp [dstB, lpName, hL]), .inr ⟨by rw [markX_snoc]; simp, (σi.ctr + 11 + 3), true, (by rw [markX_snoc]; simp [hL]), (by rw [markX_snoc]; simp [dstB, lpName, hL, Xt.enc])⟩⟩⟩
          · repeat' (first
 | (intro h; first | (exfalso; exact Bool.noConfusion h) | (simp only [decide_eq_true_eq, decide_eq_false_iff_not] at h) | skip)
 | (apply evOps_fin; (case hf => (simp only [finGo, app1]; rfl)); skip)
 | refine WP_seq ?_
 | refine WP_scope ?_
 | refine WP_block ?_
 | refine WP_ret ?_
 | refine WP_skip ?_
 | refine WP_exit ?_
 | (apply WP_region; (case hl => rfl); (case hc => (simp only [put_env', put_own', put_ctr', put_none', setOwn_env', setOwn_own', setOwn_ctr', setCtr_env', setCtr_own', setCtr_ctr', entry, entryEnv, entryOwn, inAV, scAV, inOB]; rfl)); (case hc' => (conv => lhs; simp only [List.size_toArray, List.length_cons, List.length_nil, Nat.zero_add, Nat.reduceAdd, Nat.add_assoc])); skip)
 | refine evOps_nil ?_
 | (apply evOps_one; (case hg => rfl); (case h => (simp [evStep, evPure, o999, b3, b4, b5, o8, putParams, lpName, lpOB, Xt.enc, hL, hb1, hb2]; with_reducible rfl)); skip)
 | (apply evOps_yes; (case hg => rfl); (case hb => (simp [gval, dstB, o999, b3, b4, b5, o8, putParams, lpName, lpOB, Xt.enc, hL, hb1, hb2]; done)); (case h => (simp [evStep, evPure, o999, b3, b4, b5, o8, putParams, lpName, lpOB, Xt.enc, hL, hb1, hb2]; with_reducible rfl)); skip)
 | (apply evOps_no; (case hg => rfl); (case hb => (simp [gval, dstB, o999, b3, b4, b5, o8, putParams, lpName, lpOB, Xt.enc, hL, hb1, hb2]; with_reducible rfl)); (case hne => (simp; done)); (case hd => (simp [dstB]; done)); skip)
 | (apply evOps_big; (case hg => rfl); (case hd => (simp [dstB]; done)); (case hb => (simp [evBig, evStep, evPure, o999, b3, b4, b5, o8, putParams, lpName, lpOB, Xt.enc, hL, hb1, hb2]; with_reducible rfl)); skip)
 | (apply evOps_bigYes; (case hg => rfl); (case hgv => (simp [gval, dstB, o999, b3, b4, b5, o8, putParams, lpName, lpOB, Xt.enc, hL, hb1, hb2]; done)); (case hd => (simp [dstB]; done)); (case hb => (simp [evBig, evStep, evPure, o999, b3, b4, b5, o8, putParams, lpName, lpOB, Xt.enc, hL, hb1, hb2]; with_reducible rfl)); skip)
 | (apply evOps_split; (case _hg => rfl); (case _ht => rfl); (case hb => (simp [dstB]; with_reducible rfl)); (case hv => ((fail_if_success (with_reducible exact (rfl : (_ : AV) = AV.d (.val (.bool true)) _))); (fail_if_success (with_reducible exact (rfl : (_ : AV) = AV.d (.val (.bool false)) _))); rfl)); skip)
 | (apply WP_cond; (case hx => (simp [St.eval, dstB, o999, b3, b4, b5, o8, putParams, lpName, lpOB, Xt.enc, hL, hb1, hb2]; with_reducible rfl)); (case hv => rfl); skip))
            refine ⟨rfl, ?_, ?_⟩
            · simp [dstB, o999, lpName]
            repeat' (first
 | (intro h; first | (exfalso; exact Bool.noConfusion h) | (simp only [decide_eq_true_eq, decide_eq_false_iff_not] at h) | skip)
 | (apply evOps_fin; (case hf => (simp only [finGo, app1]; rfl)); skip)
 | refine WP_seq ?_
 | refine WP_scope ?_
 | refine WP_block ?_
 | refine WP_ret ?_
 | refine WP_skip ?_
 | refine WP_exit ?_
 | (apply WP_region; (case hl => rfl); (case hc => (simp only [put_env', put_own', put_ctr', put_none', setOwn_env', setOwn_own', setOwn_ctr', setCtr_env', setCtr_own', setCtr_ctr', entry, entryEnv, entryOwn, inAV, scAV, inOB]; rfl)); (case hc' => (conv => lhs; simp only [List.size_toArray, List.length_cons, List.length_nil, Nat.zero_add, Nat.reduceAdd, Nat.add_assoc])); skip)
 | refine evOps_nil ?_
 | (apply evOps_one; (case hg => rfl); (case h => (simp [evStep, evPure, o999, b3, b4, b5, o8, putParams, lpName, lpOB, Xt.enc, hL, hb1, hb2]; with_reducible rfl)); skip)
 | (apply evOps_yes; (case hg => rfl); (case hb => (simp [gval, dstB, o999, b3, b4, b5, o8, putParams, lpName, lpOB, Xt.enc, hL, hb1, hb2]; done)); (case h => (simp [evStep, evPure, o999, b3, b4, b5, o8, putParams, lpName, lpOB, Xt.enc, hL, hb1, hb2]; with_reducible rfl)); skip)
 | (apply evOps_no; (case hg => rfl); (case hb => (simp [gval, dstB, o999, b3, b4, b5, o8, putParams, lpName, lpOB, Xt.enc, hL, hb1, hb2]; with_reducible rfl)); (case hne => (simp; done)); (case hd => (simp [dstB]; done)); skip)
 | (apply evOps_big; (case hg => rfl); (case hd => (simp [dstB]; done)); (case hb => (simp [evBig, evStep, evPure, o999, b3, b4, b5, o8, putParams, lpName, lpOB, Xt.enc, hL, hb1, hb2]; with_reducible rfl)); skip)
 | (apply evOps_bigYes; (case hg => rfl); (case hgv => (simp [gval, dstB, o999, b3, b4, b5, o8, putParams, lpName, lpOB, Xt.enc, hL, hb1, hb2]; done)); (case hd => (simp [dstB]; done)); (case hb => (simp [evBig, evStep, evPure, o999, b3, b4, b5, o8, putParams, lpName, lpOB, Xt.enc, hL, hb1, hb2]; with_reducible rfl)); skip)
 | (apply evOps_split; (case _hg => rfl); (case _ht => rfl); (case hb => (simp [dstB]; with_reducible rfl)); (case hv => ((fail_if_success (with_reducible exact (rfl : (_ : AV) = AV.d (.val (.bool true)) _))); (fail_if_success (with_reducible exact (rfl : (_ : AV) = AV.d (.val (.bool false)) _))); rfl)); skip)
 | (apply WP_cond; (case hx => (simp [St.eval, dstB, o999, b3, b4, b5, o8, putParams, lpName, lpOB, Xt.enc, hL, hb1, hb2]; with_reducible rfl)); (case hv => rfl); skip))
            refine ⟨by simp [dstB, lpName, lpOB], ?_⟩
            refine hk _ rfl ?_ ?_ ?_
            · simp [dstB]; try omega
            · intro y hy
              have q1 : ¬ y = 8 := by omega
              have q2 : ¬ y = 9 := by omega
              have q3 : ¬ y = 31 := by omega
              have q4 : ¬ y = 32 := by omega
              have q8 : ¬ y = 999 := by omega
              simp [dstB, lpName, q1, q2, q3, q4, q8]
            · refine ⟨by simp [dstB, lpName, lpOB], ⟨by simp [dstB, lpName, b3], by simp [dstB, lpName, b4], by simp [dstB, lpName, b5]⟩, ⟨.rs 32 (σi.ctr + 11 + 3) 0 1, (by simp [dstB, lpName, hL]), .inr ⟨by rw [markX_snoc]; simp, (σi.ctr + 11 + 3), true, (by rw [markX_snoc]; simp [hL]), (by rw [markX_snoc]; simp [dstB, lpName, hL, Xt.enc])⟩⟩⟩
      · have hb1 : (markX d).length + 1 ≤ 140737488355328 := by omega
        have hb2 : ((markX d).length + 1) * 32 ≤ 140737488355328 := by omega
        cases xu
        · cases b
          · repeat' (first
 | (intro h; first | (exfalso; exact Bool.noConfusion h) | (simp only [decide_eq_true_eq, decide_eq_false_iff_not] at h) | skip)
 | (apply evOps_fin; (case hf => (simp only [finGo, app1]; rfl)); skip)
 | refine WP_seq ?_
 | refine WP_scope ?_
 | refine WP_block ?_
 | refine WP_ret ?_
 | refine WP_skip ?_
 | refine WP_exit ?_
 | (apply WP_region; (case hl => rfl); (case hc => (simp only [put_env', put_own', put_ctr', put_none', setOwn_env', setOwn_own', setOwn_ctr', setCtr_env', setCtr_own', setCtr_ctr', entry, entryEnv, entryOwn, inAV, scAV, inOB]; rfl)); (case hc' => (conv => lhs; simp only [List.size_toArray, List.length_cons, List.length_nil, Nat.zero_add, Nat.reduceAdd, Nat.add_assoc])); skip)
 | refine evOps_nil ?_
 | (apply evOps_one; (case hg => rfl); (case h => (simp [evStep, evPure, o999, b3, b4, b5, o8, putParams, lpName, lpOB, Xt.enc, hL, hb1, hb2, o32]; with_reducible rfl)); skip)
 | (apply evOps_yes; (case hg => rfl); (case hb => (simp [gval, dstB, o999, b3, b4, b5, o8, putParams, lpName, lpOB, Xt.enc, hL, hb1, hb2, o32]; done)); (case h => (simp [evStep, evPure, o999, b3, b4, b5, o8, putParams, lpName, lpOB, Xt.enc, hL, hb1, hb2, o32]; with_reducible rfl)); skip)
 | (apply evOps_no; (case hg => rfl); (case hb => (simp [gval, dstB, o999, b3, b4, b5, o8, putParams, lpName, lpOB, Xt.enc, hL, hb1, hb2, o32]; with_reducible rfl)); (case hne => (simp; done)); (case hd => (simp [dstB]; done)); skip)
 | (apply evOps_big; (case hg => rfl); (case hd => (simp [dstB]; done)); (case hb => (simp [evBig, evStep, evPure, o999, b3, b4, b5, o8, putParams, lpName, lpOB, Xt.enc, hL, hb1, hb2, o32]; with_reducible rfl)); skip)
 | (apply evOps_bigYes; (case hg => rfl); (case hgv => (simp [gval, dstB, o999, b3, b4, b5, o8, putParams, lpName, lpOB, Xt.enc, hL, hb1, hb2, o32]; done)); (case hd => (simp [dstB]; done)); (case hb => (simp [evBig, evStep, evPure, o999, b3, b4, b5, o8, putParams, lpName, lpOB, Xt.enc, hL, hb1, hb2, o32]; with_reducible rfl)); skip)
 | (apply evOps_split; (case _hg => rfl); (case _ht => rfl); (case hb => (simp [dstB]; with_reducible rfl)); (case hv => ((fail_if_success (with_reducible exact (rfl : (_ : AV) = AV.d (.val (.bool true)) _))); (fail_if_success (with_reducible exact (rfl : (_ : AV) = AV.d (.val (.bool false)) _))); rfl)); skip)
 | (apply WP_cond; (case hx => (simp [St.eval, dstB, o999, b3, b4, b5, o8, putParams, lpName, lpOB, Xt.enc, hL, hb1, hb2, o32]; with_reducible rfl)); (case hv => rfl); skip))
            refine ⟨rfl, ?_, ?_⟩
            · simp [dstB, o999, lpName]
            repeat' (first
 | (intro h; first | (exfalso; exact Bool.noConfusion h) | (simp only [decide_eq_true_eq, decide_eq_false_iff_not] at h) | skip)
 | (apply evOps_fin; (case hf => (simp only [finGo, app1]; rfl)); skip)
 | refine WP_seq ?_
 | refine WP_scope ?_
 | refine WP_block ?_
 | refine WP_ret ?_
 | refine WP_skip ?_
 | refine WP_exit ?_
 | (apply WP_region; (case hl => rfl); (case hc => (simp only [put_env', put_own', put_ctr', put_none', setOwn_env', setOwn_own', setOwn_ctr', setCtr_env', setCtr_own', setCtr_ctr', entry, entryEnv, entryOwn, inAV, scAV, inOB]; rfl)); (case hc' => (conv => lhs; simp only [List.size_toArray, List.length_cons, List.length_nil, Nat.zero_add, Nat.reduceAdd, Nat.add_assoc])); skip)
 | refine evOps_nil ?_
 | (apply evOps_one; (case hg => rfl); (case h => (simp [evStep, evPure, o999, b3, b4, b5, o8, putParams, lpName, lpOB, Xt.enc, hL, hb1, hb2, o32]; with_reducible rfl)); skip)
 | (apply evOps_yes; (case hg => rfl); (case hb => (simp [gval, dstB, o999, b3, b4, b5, o8, putParams, lpName, lpOB, Xt.enc, hL, hb1, hb2, o32]; done)); (case h => (simp [evStep, evPure, o999, b3, b4, b5, o8, putParams, lpName, lpOB, Xt.enc, hL, hb1, hb2, o32]; with_reducible rfl)); skip)
 | (apply evOps_no; (case hg => rfl); (case hb => (simp [gval, dstB, o999, b3, b4, b5, o8, putParams, lpName, lpOB, Xt.enc, hL, hb1, hb2, o32]; with_reducible rfl)); (case hne => (simp; done)); (case hd => (simp [dstB]; done)); skip)
 | (apply evOps_big; (case hg => rfl); (case hd => (simp [dstB]; done)); (case hb => (simp [evBig, evStep, evPure, o999, b3, b4, b5, o8, putParams, lpName, lpOB, Xt.enc, hL, hb1, hb2, o32]; with_reducible rfl)); skip)
 | (apply evOps_bigYes; (case hg => rfl); (case hgv => (simp [gval, dstB, o999, b3, b4, b5, o8, putParams, lpName, lpOB, Xt.enc, hL, hb1, hb2, o32]; done)); (case hd => (simp [dstB]; done)); (case hb => (simp [evBig, evStep, evPure, o999, b3, b4, b5, o8, putParams, lpName, lpOB, Xt.enc, hL, hb1, hb2, o32]; with_reducible rfl)); skip)
 | (apply evOps_split; (case _hg => rfl); (case _ht => rfl); (case hb => (simp [dstB]; with_reducible rfl)); (case hv => ((fail_if_success (with_reducible exact (rfl : (_ : AV) = AV.d (.val (.bool true)) _))); (fail_if_success (with_reducible exact (rfl : (_ : AV) = AV.d (.val (.bool false)) _))); rfl)); skip)
 | (apply WP_cond; (case hx => (simp [St.eval, dstB, o999, b3, b4, b5, o8, putParams, lpName, lpOB, Xt.enc, hL, hb1, hb2, o32]; with_reducible rfl)); (case hv => rfl); skip))
            refine ⟨by simp [dstB, lpName, lpOB], ?_⟩
            refine hk _ rfl ?_ ?_ ?_
            · simp [dstB]; try omega
            · intro y hy
              have q1 : ¬ y = 8 := by omega
              have q2 : ¬ y = 9 := by omega
              have q3 : ¬ y = 31 := by omega
              have q4 : ¬ y = 32 := by omega
              have q8 : ¬ y = 999 := by omega
              simp [dstB, lpName, q1, q2, q3, q4, q8]
            · refine ⟨by simp [dstB, lpName, lpOB], ⟨by simp [dstB, lpName, b3], by simp [dstB, lpName, b4], by simp [dstB, lpName, b5]⟩, ⟨.rs 32 (σi.ctr + 11 + 3) 0 ((markX d).length + 1), (by simp [dstB, lpName, hL]), .inr ⟨by rw [markX_snoc]; simp, (σi.ctr + 11 + 3), fr, (by rw [markX_snoc]; simp [hL]), (by rw [markX_snoc]; simp [dstB, lpName, hL, Xt.enc])⟩⟩⟩
          · repeat' (first
 | (intro h; first | (exfalso; exact Bool.noConfusion h) | (simp only [decide_eq_true_eq, decide_eq_false_iff_not] at h) | skip)
 | (apply evOps_fin; (case hf => (simp only [finGo, app1]; rfl)); skip)
 | refine WP_seq ?_
 | refine WP_scope ?_
 | refine WP_block ?_
 | refine WP_ret ?_
 | refine WP_skip ?_
 | refine WP_exit ?_
 | (apply WP_region; (case hl => rfl); (case hc => (simp only [put_env', put_own', put_ctr', put_none', setOwn_env', setOwn_own', setOwn_ctr', setCtr_env', setCtr_own', setCtr_ctr', entry, entryEnv, entryOwn, inAV, scAV, inOB]; rfl)); (case hc' => (conv => lhs; simp only [List.size_toArray, List.length_cons, List.length_nil, Nat.zero_add, Nat.reduceAdd, Nat.add_assoc])); skip)
 | refine evOps_nil ?_
 | (apply evOps_one; (case hg => rfl); (case h => (simp [evStep, evPure, o999, b3, b4, b5, o8, putParams, lpName, lpOB, Xt.enc, hL, hb1, hb2, o32]; with_reducible rfl)); skip)
 | (apply evOps_yes; (case hg => rfl); (case hb => (simp [gval, dstB, o999, b3, b4, b5, o8, putParams, lpName, lpOB, Xt.enc, hL, hb1, hb2, o32]; done)); (case h => (simp [evStep, evPure, o999, b3, b4, b5, o8, putParams, lpName, lpOB, Xt.enc, hL, hb1, hb2, o32]; with_reducible rfl)); skip)
 | (apply evOps_no; (case hg => rfl); (case hb => (simp [gval, dstB, o999, b3, b4, b5, o8, putParams, lpName, lpOB, Xt.enc, hL, hb1, hb2, o32]; with_reducible rfl)); (case hne => (simp; done)); (case hd => (simp [dstB]; done)); skip)
 | (apply evOps_big; (case hg => rfl); (case hd => (simp [dstB]; done)); (case hb => (simp [evBig, evStep, evPure, o999, b3, b4, b5, o8, putParams, lpName, lpOB, Xt.enc, hL, hb1, hb2, o32]; with_reducible rfl)); skip)
 | (apply evOps_bigYes; (case hg => rfl); (case hgv => (simp [gval, dstB, o999, b3, b4, b5, o8, putParams, lpName, lpOB, Xt.enc, hL, hb1, hb2, o32]; done)); (case hd => (simp [dstB]; done)); (case hb => (simp [evBig, evStep, evPure, o999, b3, b4, b5, o8, putParams, lpName, lpOB, Xt.enc, hL, hb1, hb2, o32]; with_reducible rfl)); skip)
 | (apply evOps_split; (case _hg => rfl); (case _ht => rfl); (case hb => (simp [dstB]; with_reducible rfl)); (case hv => ((fail_if_success (with_reducible exact (rfl : (_ : AV) = AV.d (.val (.bool true)) _))); (fail_if_success (with_reducible exact (rfl : (_ : AV) = AV.d (.val (.bool false)) _))); rfl)); skip)
 | (apply WP_cond; (case hx => (simp [St.eval, dstB, o999, b3, b4, b5, o8, putParams, lpName, lpOB, Xt.enc, hL, hb1, hb2, o32]; with_reducible rfl)); (case hv => rfl); skip))
            refine ⟨rfl, ?_, ?_⟩
            · simp [dstB, o999, lpName]
            repeat' (first
 | (intro h; first | (exfalso; exact Bool.noConfusion h) | (simp only [decide_eq_true_eq, decide_eq_false_iff_not] at h) | skip)
 | (apply evOps_fin; (case hf => (simp only [finGo, app1]; rfl)); skip)
 | refine WP_seq ?_
 | refine WP_scope ?_
 | refine WP_block ?_
 | refine WP_ret ?_
 | refine WP_skip ?_
 | refine WP_exit ?_
 | (apply WP_region; (case hl => rfl); (case hc => (simp only [put_env', put_own', put_ctr', put_none', setOwn_env', setOwn_own', setOwn_ctr', setCtr_env', setCtr_own', setCtr_ctr', entry, entryEnv, entryOwn, inAV, scAV, inOB]; rfl)); (case hc' => (conv => lhs; simp only [List.size_toArray, List.length_cons, List.length_nil, Nat.zero_add, Nat.reduceAdd, Nat.add_assoc])); skip)
 | refine evOps_nil ?_
 | (apply evOps_one; (case hg => rfl); (case h => (simp [evStep, evPure, o999, b3, b4, b5, o8, putParams, lpName, lpOB, Xt.enc, hL, hb1, hb2, o32]; with_reducible rfl)); skip)
 | (apply evOps_yes; (case hg => rfl); (case hb => (simp [gval, dstB, o999, b3, b4, b5, o8, putParams, lpName, lpOB, Xt.enc, hL, hb1, hb2, o32]; done)); (case h => (simp [evStep, evPure, o999, b3, b4, b5, o8, putParams, lpName, lpOB, Xt.enc, hL, hb1, hb2, o32]; with_reducible rfl)); skip)
 | (apply evOps_no; (case hg => rfl); (case hb => (simp [gval, dstB, o999, b3, b4, b5, o8, putParams, lpName, lpOB, Xt.enc, hL, hb1, hb2, o32]; with_reducible rfl)); (case hne => (simp; done)); (case hd => (simp [dstB]; done)); skip)
 | (apply evOps_big; (case hg => rfl); (case hd => (simp [dstB]; done)); (case hb => (simp [evBig, evStep, evPure, o999, b3, b4, b5, o8, putParams, lpName, lpOB, Xt.enc, hL, hb1, hb2, o32]; with_reducible rfl)); skip)
 | (apply evOps_bigYes; (case hg => rfl); (case hgv => (simp [gval, dstB, o999, b3, b4, b5, o8, putParams, lpName, lpOB, Xt.enc, hL, hb1, hb2, o32]; done)); (case hd => (simp [dstB]; done)); (case hb => (simp [evBig, evStep, evPure, o999, b3, b4, b5, o8, putParams, lpName, lpOB, Xt.enc, hL, hb1, hb2, o32]; with_reducible rfl)); skip)
 | (apply evOps_split; (case _hg => rfl); (case _ht => rfl); (case hb => (simp [dstB]; with_reducible rfl)); (case hv => ((fail_if_success (with_reducible exact (rfl : (_ : AV) = AV.d (.val (.bool true)) _))); (fail_if_success (with_reducible exact (rfl : (_ : AV) = AV.d (.val (.bool false)) _))); rfl)); skip)
 | (apply WP_cond; (case hx => (simp [St.eval, dstB, o999, b3, b4, b5, o8, putParams, lpName, lpOB, Xt.enc, hL, hb1, hb2, o32]; with_reducible rfl)); (case hv => rfl); skip))
            refine ⟨by simp [dstB, lpName, lpOB], ?_⟩
            refine hk _ rfl ?_ ?_ ?_
            · simp [dstB]; try omega
            · intro y hy
              have q1 : ¬ y = 8 := by omega
              have q2 : ¬ y = 9 := by omega
              have q3 : ¬ y = 31 := by omega
              have q4 : ¬ y = 32 := by omega
              have q8 : ¬ y = 999 := by omega
              simp [dstB, lpName, q1, q2, q3, q4, q8]
            · refine ⟨by simp [dstB, lpName, lpOB], ⟨by simp [dstB, lpName, b3], by simp [dstB, lpName, b4], by simp [dstB, lpName, b5]⟩, ⟨.rs 32 (σi.ctr + 11 + 3) 0 ((markX d).length + 1), (by simp [dstB, lpName, hL]), .inr ⟨by rw [markX_snoc]; simp, (σi.ctr + 11 + 3), fr, (by rw [markX_snoc]; simp [hL]), (by rw [markX_snoc]; simp [dstB, lpName, hL, Xt.enc])⟩⟩⟩
        · cases b
          · repeat' (first
 | (intro h; first | (exfalso; exact Bool.noConfusion h) | (simp only [decide_eq_true_eq, decide_eq_false_iff_not] at h) | skip)
 | (apply evOps_fin; (case hf => (simp only [finGo, app1]; rfl)); skip)
 | refine WP_seq ?_
 | refine WP_scope ?_
 | refine WP_block ?_
 | refine WP_ret ?_
 | refine WP_skip ?_
 | refine WP_exit ?_
 | (apply WP_region; (case hl => rfl); (case hc => (simp only [put_env', put_own', put_ctr', put_none', setOwn_env', setOwn_own', setOwn_ctr', setCtr_env', setCtr_own', setCtr_ctr', entry, entryEnv, entryOwn, inAV, scAV, inOB]; rfl)); (case hc' => (conv => lhs; simp only [List.size_toArray, List.length_cons, List.length_nil, Nat.zero_add, Nat.reduceAdd, Nat.add_assoc])); skip)
 | refine evOps_nil ?_
 | (apply evOps_one; (case hg => rfl); (case h => (simp [evStep, evPure, o999, b3, b4, b5, o8, putParams, lpName, lpOB, Xt.enc, hL, hb1, hb2, o32]; with_reducible rfl)); skip)
 | (apply evOps_yes; (case hg => rfl); (case hb => (simp [gval, dstB, o999, b3, b4, b5, o8, putParams, lpName, lpOB, Xt.enc, hL, hb1, hb2, o32]; done)); (case h => (simp [evStep, evPure, o999, b3, b4, b5, o8, putParams, lpName, lpOB, Xt.enc, hL, hb1, hb2, o32]; with_reducible rfl)); skip)
 | (apply evOps_no; (case hg => rfl); (case hb => (simp [gval, dstB, o999, b3, b4, b5, o8, putParams, lpName, lpOB, Xt.enc, hL, hb1, hb2, o32]; with_reducible rfl)); (case hne => (simp; done)); (case hd => (simp [dstB]; done)); skip)
 | (apply evOps_big; (case hg => rfl); (case hd => (simp [dstB]; done)); (case hb => (simp [evBig, evStep, evPure, o999, b3, b4, b5, o8, putParams, lpName, lpOB, Xt.enc, hL, hb1, hb2, o32]; with_reducible rfl)); skip)
 | (apply evOps_bigYes; (case hg => rfl); (case hgv => (simp [gval, dstB, o999, b3, b4, b5, o8, putParams, lpName, lpOB, Xt.enc, hL, hb1, hb2, o32]; done)); (case hd => (simp [dstB]; done)); (case hb => (simp [evBig, evStep, evPure, o999, b3, b4, b5, o8, putParams, lpName, lpOB, Xt.enc, hL, hb1, hb2, o32]; with_reducible rfl)); skip)
 | (apply evOps_split; (case _hg => rfl); (case _ht => rfl); (case hb => (simp [dstB]; with_reducible rfl)); (case hv => ((fail_if_success (with_reducible exact (rfl : (_ : AV) = AV.d (.val (.bool true)) _))); (fail_if_success (with_reducible exact (rfl : (_ : AV) = AV.d (.val (.bool false)) _))); rfl)); skip)
 | (apply WP_cond; (case hx => (simp [St.eval, dstB, o999, b3, b4, b5, o8, putParams, lpName, lpOB, Xt.enc, hL, hb1, hb2, o32]; with_reducible rfl)); (case hv => rfl); skip))
            refine ⟨rfl, ?_, ?_⟩
            · simp [dstB, o999, lpName]
            repeat' (first
 | (intro h; first | (exfalso; exact Bool.noConfusion h) | (simp only [decide_eq_true_eq, decide_eq_false_iff_not] at h) | skip)
 | (apply evOps_fin; (case hf => (simp only [finGo, app1]; rfl)); skip)
 | refine WP_seq ?_
 | refine WP_scope ?_
 | refine WP_block ?_
 | refine WP_ret ?_
 | refine WP_skip ?_
 | refine WP_exit ?_
 | (apply WP_region; (case hl => rfl); (case hc => (simp only [put_env', put_own', put_ctr', put_none', setOwn_env', setOwn_own', setOwn_ctr', setCtr_env', setCtr_own', setCtr_ctr', entry, entryEnv, entryOwn, inAV, scAV, inOB]; rfl)); (case hc' => (conv => lhs; simp only [List.size_toArray, List.length_cons, List.length_nil, Nat.zero_add, Nat.reduceAdd, Nat.add_assoc])); skip)
 | refine evOps_nil ?_
 | (apply evOps_one; (case hg => rfl); (case h => (simp [evStep, evPure, o999, b3, b4, b5, o8, putParams, lpName, lpOB, Xt.enc, hL, hb1, hb2, o32]; with_reducible rfl)); skip)
 | (apply evOps_yes; (case hg => rfl); (case hb => (simp [gval, dstB, o999, b3, b4, b5, o8, putParams, lpName, lpOB, Xt.enc, hL, hb1, hb2, o32]; done)); (case h => (simp [evStep, evPure, o999, b3, b4, b5, o8, putParams, lpName, lpOB, Xt.enc, hL, hb1, hb2, o32]; with_reducible rfl)); skip)
 | (apply evOps_no; (case hg => rfl); (case hb => (simp [gval, dstB, o999, b3, b4, b5, o8, putParams, lpName, lpOB, Xt.enc, hL, hb1, hb2, o32]; with_reducible rfl)); (case hne => (simp; done)); (case hd => (simp [dstB]; done)); skip)
 | (apply evOps_big; (case hg => rfl); (case hd => (simp [dstB]; done)); (case hb => (simp [evBig, evStep, evPure, o999, b3, b4, b5, o8, putParams, lpName, lpOB, Xt.enc, hL, hb1, hb2, o32]; with_reducible rfl)); skip)
 | (apply evOps_bigYes; (case hg => rfl); (case hgv => (simp [gval, dstB, o999, b3, b4, b5, o8, putParams, lpName, lpOB, Xt.enc, hL, hb1, hb2, o32]; done)); (case hd => (simp [dstB]; done)); (case hb => (simp [evBig, evStep, evPure, o999, b3, b4, b5, o8, putParams, lpName, lpOB, Xt.enc, hL, hb1, hb2, o32]; with_reducible rfl)); skip)
 | (apply evOps_split; (case _hg => rfl); (case _ht => rfl); (case hb => (simp [dstB]; with_reducible rfl)); (case hv => ((fail_if_success (with_reducible exact (rfl : (_ : AV) = AV.d (.val (.bool true)) _))); (fail_if_success (with_reducible exact (rfl : (_ : AV) = AV.d (.val (.bool false)) _))); rfl)); skip)
 | (apply WP_cond; (case hx => (simp [St.eval, dstB, o999, b3, b4, b5, o8, putParams, lpName, lpOB, Xt.enc, hL, hb1, hb2, o32]; with_reducible rfl)); (case hv => rfl); skip))
            refine ⟨by simp [dstB, lpName, lpOB], ?_⟩
            refine hk _ rfl ?_ ?_ ?_
            · simp [dstB]; try omega
            · intro y hy
              have q1 : ¬ y = 8 := by omega
              have q2 : ¬ y = 9 := by omega
              have q3 : ¬ y = 31 := by omega
              have q4 : ¬ y = 32 := by omega
              have q8 : ¬ y = 999 := by omega
              simp [dstB, lpName, q1, q2, q3, q4, q8]
            · refine ⟨by simp [dstB, lpName, lpOB], ⟨by simp [dstB, lpName, b3], by simp [dstB, lpName, b4], by simp [dstB, lpName, b5]⟩, ⟨.rs 32 (σi.ctr + 11 + 3) 0 ((markX d).length + 1), (by simp [dstB, lpName, hL]), .inr ⟨by rw [markX_snoc]; simp, (σi.ctr + 11 + 3), fr, (by rw [markX_snoc]; simp [hL]), (by rw [markX_snoc]; simp [dstB, lpName, hL, Xt.enc])⟩⟩⟩
          · repeat' (first
 | (intro h; first | (exfalso; exact Bool.noConfusion h) | (simp only [decide_eq_true_eq, decide_eq_false_iff_not] at h) | skip)
 | (apply evOps_fin; (case hf => (simp only [finGo, app1]; rfl)); skip)
 | refine WP_seq ?_
 | refine WP_scope ?_
 | refine WP_block ?_
 | refine WP_ret ?_
 | refine WP_skip ?_
 | refine WP_exit ?_
 | (apply WP_region; (case hl => rfl); (case hc => (simp only [put_env', put_own', put_ctr', put_none', setOwn_env', setOwn_own', setOwn_ctr', setCtr_env', setCtr_own', setCtr_ctr', entry, entryEnv, entryOwn, inAV, scAV, inOB]; rfl)); (case hc' => (conv => lhs; simp only [List.size_toArray, List.length_cons, List.length_nil, Nat.zero_add, Nat.reduceAdd, Nat.add_assoc])); skip)
 | refine evOps_nil ?_
 | (apply evOps_one; (case hg => rfl); (case h => (simp [evStep, evPure, o999, b3, b4, b5, o8, putParams, lpName, lpOB, Xt.enc, hL, hb1, hb2, o32]; with_reducible rfl)); skip)
 | (apply evOps_yes; (case hg => rfl); (case hb => (simp [gval, dstB, o999, b3, b4, b5, o8, putParams, lpName, lpOB, Xt.enc, hL, hb1, hb2, o32]; done)); (case h => (simp [evStep, evPure, o999, b3, b4, b5, o8, putParams, lpName, lpOB, Xt.enc, hL, hb1, hb2, o32]; with_reducible rfl)); skip)
 | (apply evOps_no; (case hg => rfl); (case hb => (simp [gval, dstB, o999, b3, b4, b5, o8, putParams, lpName, lpOB, Xt.enc, hL, hb1, hb2, o32]; with_reducible rfl)); (case hne => (simp; done)); (case hd => (simp [dstB]; done)); skip)
 | (apply evOps_big; (case hg => rfl); (case hd => (simp [dstB]; done)); (case hb => (simp [evBig, evStep, evPure, o999, b3, b4, b5, o8, putParams, lpName, lpOB, Xt.enc, hL, hb1, hb2, o32]; with_reducible rfl)); skip)
 | (apply evOps_bigYes; (case hg => rfl); (case hgv => (simp [gval, dstB, o999, b3, b4, b5, o8, putParams, lpName, lpOB, Xt.enc, hL, hb1, hb2, o32]; done)); (case hd => (simp [dstB]; done)); (case hb => (simp [evBig, evStep, evPure, o999, b3, b4, b5, o8, putParams, lpName, lpOB, Xt.enc, hL, hb1, hb2, o32]; with_reducible rfl)); skip)
 | (apply evOps_split; (case _hg => rfl); (case _ht => rfl); (case hb => (simp [dstB]; with_reducible rfl)); (case hv => ((fail_if_success (with_reducible exact (rfl : (_ : AV) = AV.d (.val (.bool true)) _))); (fail_if_success (with_reducible exact (rfl : (_ : AV) = AV.d (.val (.bool false)) _))); rfl)); skip)
 | (apply WP_cond; (case hx => (simp [St.eval, dstB, o999, b3, b4, b5, o8, putParams, lpName, lpOB, Xt.enc, hL, hb1, hb2, o32]; with_reducible rfl)); (case hv => rfl); skip))
            refine ⟨rfl, ?_, ?_⟩
            · simp [dstB, o999, lpName]
            repeat' (first
 | (intro h; first | (exfalso; exact Bool.noConfusion h) | (simp only [decide_eq_true_eq, decide_eq_false_iff_not] at h) | skip)
 | (apply evOps_fin; (case hf => (simp only [finGo, app1]; rfl)); skip)
 | refine WP_seq ?_
 | refine WP_scope ?_
 | refine WP_block ?_
 | refine WP_ret ?_
 | refine WP_skip ?_
 | refine WP_exit ?_
 | (apply WP_region; (case hl => rfl); (case hc => (simp only [put_env', put_own', put_ctr', put_none', setOwn_env', setOwn_own', setOwn_ctr', setCtr_env', setCtr_own', setCtr_ctr', entry, entryEnv, entryOwn, inAV, scAV, inOB]; rfl)); (case hc' => (conv => lhs; simp only [List.size_toArray, List.length_cons, List.length_nil, Nat.zero_add, Nat.reduceAdd, Nat.add_assoc])); skip)
 | refine evOps_nil ?_
 | (apply evOps_one; (case hg => rfl); (case h => (simp [evStep, evPure, o999, b3, b4, b5, o8, putParams, lpName, lpOB, Xt.enc, hL, hb1, hb2, o32]; with_reducible rfl)); skip)
 | (apply evOps_yes; (case hg => rfl); (case hb => (simp [gval, dstB, o999, b3, b4, b5, o8, putParams, lpName, lpOB, Xt.enc, hL, hb1, hb2, o32]; done)); (case h => (simp [evStep, evPure, o999, b3, b4, b5, o8, putParams, lpName, lpOB, Xt.enc, hL, hb1, hb2, o32]; with_reducible rfl)); skip)
 | (apply evOps_no; (case hg => rfl); (case hb => (simp [gval, dstB, o999, b3, b4, b5, o8, putParams, lpName, lpOB, Xt.enc, hL, hb1, hb2, o32]; with_reducible rfl)); (case hne => (simp; done)); (case hd => (simp [dstB]; done)); skip)
 | (apply evOps_big; (case hg => rfl); (case hd => (simp [dstB]; done)); (case hb => (simp [evBig, evStep, evPure, o999, b3, b4, b5, o8, putParams, lpName, lpOB, Xt.enc, hL, hb1, hb2, o32]; with_reducible rfl)); skip)
 | (apply evOps_bigYes; (case hg => rfl); (case hgv => (simp [gval, dstB, o999, b3, b4, b5, o8, putParams, lpName, lpOB, Xt.enc, hL, hb1, hb2, o32]; done)); (case hd => (simp [dstB]; done)); (case hb => (simp [evBig, evStep, evPure, o999, b3, b4, b5, o8, putParams, lpName, lpOB, Xt.enc, hL, hb1, hb2, o32]; with_reducible rfl)); skip)
 | (apply evOps_split; (case _hg => rfl); (case _ht => rfl); (case hb => (simp [dstB]; with_reducible rfl)); (case hv => ((fail_if_success (with_reducible exact (rfl : (_ : AV) = AV.d (.val (.bool true)) _))); (fail_if_success (with_reducible exact (rfl : (_ : AV) = AV.d (.val (.bool false)) _))); rfl)); skip)
 | (apply WP_cond; (case hx => (simp [St.eval, dstB, o999, b3, b4, b5, o8, putParams, lpName, lpOB, Xt.enc, hL, hb1, hb2, o32]; with_reducible rfl)); (case hv => rfl); skip))
            refine ⟨by simp [dstB, lpName, lpOB], ?_⟩
            refine hk _ rfl ?_ ?_ ?_
            · simp [dstB]; try omega
            · intro y hy
              have q1 : ¬ y = 8 := by omega
              have q2 : ¬ y = 9 := by omega
              have q3 : ¬ y = 31 := by omega
              have q4 : ¬ y = 32 := by omega
              have q8 : ¬ y = 999 := by omega
              simp [dstB, lpName, q1, q2, q3, q4, q8]
            · refine ⟨by simp [dstB, lpName, lpOB], ⟨by simp [dstB, lpName, b3], by simp [dstB, lpName, b4], by simp [dstB, lpName, b5]⟩, ⟨.rs 32 (σi.ctr + 11 + 3) 0 ((markX d).length + 1), (by simp [dstB, lpName, hL]), .inr ⟨by rw [markX_snoc]; simp, (σi.ctr + 11 + 3), fr, (by rw [markX_snoc]; simp [hL]), (by rw [markX_snoc]; simp [dstB, lpName, hL, Xt.enc])⟩⟩⟩
end Go.Dv
