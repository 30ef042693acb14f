/-
  DERIVED, MY OWN. A part of the proof of ExtentBlocks: see the last text (Row).
-/
import Derived.Test.YteldlckmleblkaaWkD
import Derived.Test.YteldlckmleblkaaWkB
import Derived.Test.YteldlckmleblkaaXt
import Derived.Test.YteldlckmleblkaaDvC
set_option linter.all false
/-
  DERIVED, MY OWN. THE WALK OF alive.
-/


set_option autoImplicit false
set_option maxRecDepth 20000
set_option linter.unusedSimpArgs false
set_option linter.unusedVariables false
namespace Go.Dv
open Go Go.RowKit Go.Proofs

def sp6 : FSpec := ⟨[], fun ins => match ins with | [] => some ⟨[.sc (vb true) true], none⟩ | _ => none⟩
theorem run9 : sp9.run [.sc (.sl false [[vi 2, vi 52, vi 3, vb false]]), .ag [vi 0, vi 50, vi 2, vb false]] = some ⟨[.own 24 4 true [[vi 0, vi 50, vi 5, vb false]], .sc (vi 0) true], none⟩ := by kernel_rfl
theorem run10 : sp10.run [.sc (.sl false [[vi 0, vi 50, vi 5, vb false]]), .sc (vi 1), .sc (vi 3)] = some ⟨[.sc (.sl false [[vi 0, vi 50, vi 1, vb false], [vi 3, vi 53, vi 2, vb false]]) true, .sc (.sl false [[vi 51, vi 2]]) true, .sc (vi 0) true], none⟩ := by kernel_rfl

theorem m9 : sp9.modes = [false, false] := rfl
theorem m10 : sp10.modes = [false, false, false] := rfl
def D6 : Dep := fun
  | _ => (0, [])
set_option maxHeartbeats 2000000 in
theorem ok6 {T : Tbl} (hT : TblOk' Try.prog T) (h9 : T 9 = some sp9) (h10 : T 10 = some sp10) : FOk Try.prog 6 sp6 := by
  intro ins out h
  simp only [sp6] at h
  split at h
  · obtain rfl := Option.some.inj h
    clear h
    refine at_of_body (D := D6) hT mix10 Try.func6 rfl (by simp [Try.ntmps6]) (fun ty => ?_)
    repeat' (first
 | (intro h; first | (exfalso; exact Bool.noConfusion h) | (simp only [decide_eq_true_eq, decide_eq_false_iff_not] at h) | skip)
 | (apply evOps_fin; (case hf => (simp only [finGo, app1]; rfl)); skip)
 | refine WP_seq ?_
 | refine WP_scope ?_
 | refine WP_block ?_
 | refine WP_ret ?_
 | refine WP_skip ?_
 | refine WP_exit ?_
 | (apply WP_region; (case hl => rfl); (case hc => (simp only [put_env', put_own', put_ctr', put_none', setOwn_env', setOwn_own', setOwn_ctr', setCtr_env', setCtr_own', setCtr_ctr', entry, entryEnv, entryOwn, inAV, scAV, inOB]; rfl)); (case hc' => (conv => lhs; simp only [List.size_toArray, List.length_cons, List.length_nil, Nat.zero_add, Nat.reduceAdd, Nat.add_assoc])); skip)
 | refine evOps_nil ?_
 | (apply evOps_one; (case hg => rfl); (case h => (simp [evStep, evPure, h9, h10, run9, run10, m9, m10, List.filter_cons]; with_reducible rfl)); skip)
 | (apply evOps_yes; (case hg => rfl); (case hb => (simp [gval, dstB, h9, h10, run9, run10, m9, m10, List.filter_cons]; done)); (case h => (simp [evStep, evPure, h9, h10, run9, run10, m9, m10, List.filter_cons]; with_reducible rfl)); skip)
 | (apply evOps_no; (case hg => rfl); (case hb => (simp [gval, dstB, h9, h10, run9, run10, m9, m10, List.filter_cons]; with_reducible rfl)); (case hne => (simp; done)); (case hd => (simp [dstB]; done)); skip)
 | (apply evOps_big; (case hg => rfl); (case hd => (simp [dstB]; done)); (case hb => (simp [evBig, evStep, evPure, h9, h10, run9, run10, m9, m10, List.filter_cons]; with_reducible rfl)); skip)
 | (apply evOps_bigYes; (case hg => rfl); (case hgv => (simp [gval, dstB, h9, h10, run9, run10, m9, m10, List.filter_cons]; done)); (case hd => (simp [dstB]; done)); (case hb => (simp [evBig, evStep, evPure, h9, h10, run9, run10, m9, m10, List.filter_cons]; with_reducible rfl)); skip)
 | (apply evOps_split; (case _hg => rfl); (case _ht => rfl); (case hb => (simp [dstB]; with_reducible rfl)); (case hv => ((fail_if_success (with_reducible exact (rfl : (_ : AV) = AV.d (.val (.bool true)) _))); (fail_if_success (with_reducible exact (rfl : (_ : AV) = AV.d (.val (.bool false)) _))); rfl)); skip)
 | (apply WP_cond; (case hx => (simp [St.eval, dstB, h9, h10, run9, run10, m9, m10, List.filter_cons]; with_reducible rfl)); (case hv => rfl); skip))
    all_goals simp [Fin1, resVals, ownOf, FinList1, FinOne1, FinWr1, nodupB, Try.results6, evStep, evPure]
  · cases h
end Go.Dv

/-
  DERIVED, MY OWN. THE WALK OF ExtentBlocks.
-/



set_option autoImplicit false
set_option maxRecDepth 20000
set_option linter.unusedSimpArgs false
set_option linter.unusedVariables false
namespace Go.Dv
open Go Go.RowKit Go.Proofs

def Base3 (n : Bool) (l : List Xt) (e : Xt) (q : Int) (σ : St) : Prop :=
  σ.env 0 = .d (.sl n (l.map Xt.enc)) false ∧ σ.env 2 = .d (vi q) false ∧ (∃ g, σ.env 4 = .rp 4 g 0 0 ∧ σ.own 4 = some (.var 24 g false [.d (vi e.at') false, .d (vi e.start) false, .d (vi e.len) false, .d (vb e.un) false]))
def Put3 (l : List Xt) (e : Xt) (σ : St) : Prop :=
  ∃ f : Int, σ.env 8 = .d (vi f) true ∧ ((f ≠ 0 ∧ σ.env 7 = .d (.sl true []) true) ∨ (f = 0 ∧ ∃ a g, PutOk l e a ∧ σ.env 7 = .rs 40 g 0 a.length ∧ σ.own 40 = some (.row 24 4 g true false true (a.map Xt.enc))))
def Cut3 (l : List Xt) (p q : Int) (σ : St) : Prop :=
  ∃ f : Int, σ.env 11 = .d (vi f) true ∧ ((f ≠ 0 ∧ σ.env 9 = .d (.sl true []) true) ∨ (f = 0 ∧ ∃ b, CutOk l p q b ∧ σ.env 9 = .d (.sl (b.map Xt.enc).isEmpty (b.map Xt.enc)) true))
def Mark3 (l : List Xt) (p q : Int) (σ : St) : Prop :=
  ∃ f : Int, σ.env 13 = .d (vi f) true ∧ ((f ≠ 0 ∧ σ.env 12 = .d (.sl true []) true) ∨ (f = 0 ∧ ∃ b, MarkOk l p q b ∧ σ.env 12 = .d (.sl (b.map Xt.enc).isEmpty (b.map Xt.enc)) true))
theorem run9' {n : Bool} {l : List Xt} {e : Xt} (hn : n = true → l = []) : sp9.run [.sc (.sl n (l.map Xt.enc)), .ag [vi e.at', vi e.start, vi e.len, vb e.un]] = some (out9 l e) := by
  have h : decX [vi e.at', vi e.start, vi e.len, vb e.un] = some e := rfl
  simp only [sp9, decL_enc, h]
  rw [if_pos]
  cases n
  · rfl
  · rw [hn rfl]; rfl
theorem run10' {n : Bool} {l : List Xt} {p q : Int} : sp10.run [.sc (.sl n (l.map Xt.enc)), .sc (vi p), .sc (vi q)] = some (out10 l p q) := by
  simp only [sp10, decL_enc]; rfl
theorem run11' {n : Bool} {l : List Xt} {p q : Int} : sp11.run [.sc (.sl n (l.map Xt.enc)), .sc (vi p), .sc (vi q)] = some (out11 l p q) := by
  simp only [sp11, decL_enc]; rfl
theorem m11 : sp11.modes = [false, false, false] := rfl

def S12 (σ σ' : St) : Prop := σ'.env 0 = σ.env 0 ∧ σ'.env 2 = σ.env 2 ∧ σ'.env 4 = σ.env 4 ∧ σ'.env 7 = σ.env 7 ∧ σ'.env 8 = σ.env 8 ∧ σ'.env 9 = σ.env 9 ∧ σ'.env 11 = σ.env 11 ∧ σ'.env 12 = σ.env 12 ∧ σ'.env 13 = σ.env 13 ∧ σ'.own 4 = σ.own 4 ∧ σ'.own 40 = σ.own 40
def All3 (n : Bool) (l : List Xt) (e : Xt) (q : Int) (σ : St) : Prop := Base3 n l e q σ ∧ Put3 l e σ ∧ Cut3 l e.at' q σ ∧ Mark3 l e.at' q σ
theorem Put3.of {l : List Xt} {e : Xt} {σ σ' : St} (h : Put3 l e σ) (h7 : σ'.env 7 = σ.env 7) (h8 : σ'.env 8 = σ.env 8) (h40 : σ'.own 40 = σ.own 40) : Put3 l e σ' := by
  unfold Put3 at *; rw [h7, h8, h40]; exact h
theorem Cut3.of {l : List Xt} {p q : Int} {σ σ' : St} (h : Cut3 l p q σ) (h7 : σ'.env 9 = σ.env 9) (h8 : σ'.env 11 = σ.env 11) : Cut3 l p q σ' := by
  unfold Cut3 at *; rw [h7, h8]; exact h
theorem All3.of {n : Bool} {l : List Xt} {e : Xt} {q : Int} {σ σ' : St} (h : All3 n l e q σ) (hs : S12 σ σ') : All3 n l e q σ' := by
  obtain ⟨h0, h2, h4, h7, h8, h9, h11, h12, h13, o4, o40⟩ := hs
  obtain ⟨⟨a0, a2, g, a4, p4⟩, hp, hc, hm⟩ := h
  refine ⟨⟨h0.trans a0, h2.trans a2, g, h4.trans a4, o4.trans p4⟩, hp.of h7 h8 o40, hc.of h9 h11, ?_⟩
  unfold Mark3 at *; rw [h12, h13]; exact hm
def D3 : Dep := fun
  | _ => (0, [])
set_option maxHeartbeats 4000000 in
theorem ok3 {T : Tbl} (hT : TblOk' Try.prog T) (h6 : T 6 = some sp6) (h7 : T 7 = some sp7) (h8 : T 8 = some sp8) (h9 : T 9 = some sp9) (h10 : T 10 = some sp10) (h11 : T 11 = some sp11) (h12 : T 12 = some sp12) : FOk Try.prog 3 sp3 := by
  intro ins out h
  obtain ⟨n, l, e, q, rfl, hn, rfl⟩ := sp3_inv h
  clear h
  refine at_of_body (D := D3) hT mix10 Try.func3 rfl (by simp [Try.ntmps3]) (fun ty => ?_)
  cases hc : checkX l
  · repeat' (first
 | (intro h; first | (exfalso; exact Bool.noConfusion h) | (simp only [decide_eq_true_eq, decide_eq_false_iff_not] at h) | skip)
 | (apply evOps_fin; (case hf => (simp only [finGo, app1]; rfl)); skip)
 | refine WP_seq ?_
 | refine WP_scope ?_
 | refine WP_block ?_
 | refine WP_ret ?_
 | refine WP_skip ?_
 | refine WP_exit ?_
 | (apply WP_region; (case hl => rfl); (case hc => (simp only [put_env', put_own', put_ctr', put_none', setOwn_env', setOwn_own', setOwn_ctr', setCtr_env', setCtr_own', setCtr_ctr', entry, entryEnv, entryOwn, inAV, scAV, inOB]; rfl)); (case hc' => (conv => lhs; simp only [List.size_toArray, List.length_cons, List.length_nil, Nat.zero_add, Nat.reduceAdd, Nat.add_assoc])); skip)
 | refine evOps_nil ?_
 | (apply evOps_one; (case hg => rfl); (case h => (simp [evStep, evPure, h6, sp6, h7, sp7, h8, sp8, decL_enc, hc, needX, Xt.enc, List.filter_cons]; with_reducible rfl)); skip)
 | (apply evOps_yes; (case hg => rfl); (case hb => (simp [gval, dstB, h6, sp6, h7, sp7, h8, sp8, decL_enc, hc, needX, Xt.enc, List.filter_cons]; done)); (case h => (simp [evStep, evPure, h6, sp6, h7, sp7, h8, sp8, decL_enc, hc, needX, Xt.enc, List.filter_cons]; with_reducible rfl)); skip)
 | (apply evOps_no; (case hg => rfl); (case hb => (simp [gval, dstB, h6, sp6, h7, sp7, h8, sp8, decL_enc, hc, needX, Xt.enc, List.filter_cons]; with_reducible rfl)); (case hne => (simp; done)); (case hd => (simp [dstB]; done)); skip)
 | (apply evOps_big; (case hg => rfl); (case hd => (simp [dstB]; done)); (case hb => (simp [evBig, evStep, evPure, h6, sp6, h7, sp7, h8, sp8, decL_enc, hc, needX, Xt.enc, List.filter_cons]; with_reducible rfl)); skip)
 | (apply evOps_bigYes; (case hg => rfl); (case hgv => (simp [gval, dstB, h6, sp6, h7, sp7, h8, sp8, decL_enc, hc, needX, Xt.enc, List.filter_cons]; done)); (case hd => (simp [dstB]; done)); (case hb => (simp [evBig, evStep, evPure, h6, sp6, h7, sp7, h8, sp8, decL_enc, hc, needX, Xt.enc, List.filter_cons]; with_reducible rfl)); skip)
 | (apply evOps_split; (case _hg => rfl); (case _ht => rfl); (case hb => (simp [dstB]; with_reducible rfl)); (case hv => ((fail_if_success (with_reducible exact (rfl : (_ : AV) = AV.d (.val (.bool true)) _))); (fail_if_success (with_reducible exact (rfl : (_ : AV) = AV.d (.val (.bool false)) _))); rfl)); skip)
 | (apply WP_cond; (case hx => (simp [St.eval, dstB, h6, sp6, h7, sp7, h8, sp8, decL_enc, hc, needX, Xt.enc, List.filter_cons]; with_reducible rfl)); (case hv => rfl); skip))
    all_goals simp [Fin1, resVals, ownOf, FinList1, FinOne1, FinWr1, nodupB, Try.results3, evStep, evPure]
  · refine WP_cut (Base3 n l e q) (fun W hW => ?_) fun σ0 ⟨a0, a2, g4, a4, p4⟩ => ?_
    · repeat' (first
 | (intro h; first | (exfalso; exact Bool.noConfusion h) | (simp only [decide_eq_true_eq, decide_eq_false_iff_not] at h) | skip)
 | (apply evOps_fin; (case hf => (simp only [finGo, app1]; rfl)); skip)
 | refine WP_seq ?_
 | refine WP_scope ?_
 | refine WP_block ?_
 | refine WP_ret ?_
 | refine WP_skip ?_
 | refine WP_exit ?_
 | (apply WP_region; (case hl => rfl); (case hc => (simp only [put_env', put_own', put_ctr', put_none', setOwn_env', setOwn_own', setOwn_ctr', setCtr_env', setCtr_own', setCtr_ctr', entry, entryEnv, entryOwn, inAV, scAV, inOB]; rfl)); (case hc' => (conv => lhs; simp only [List.size_toArray, List.length_cons, List.length_nil, Nat.zero_add, Nat.reduceAdd, Nat.add_assoc])); skip)
 | refine evOps_nil ?_
 | (apply evOps_one; (case hg => rfl); (case h => (simp [evStep, evPure, Xt.enc]; with_reducible rfl)); skip)
 | (apply evOps_yes; (case hg => rfl); (case hb => (simp [gval, dstB, Xt.enc]; done)); (case h => (simp [evStep, evPure, Xt.enc]; with_reducible rfl)); skip)
 | (apply evOps_no; (case hg => rfl); (case hb => (simp [gval, dstB, Xt.enc]; with_reducible rfl)); (case hne => (simp; done)); (case hd => (simp [dstB]; done)); skip)
 | (apply evOps_big; (case hg => rfl); (case hd => (simp [dstB]; done)); (case hb => (simp [evBig, evStep, evPure, Xt.enc]; with_reducible rfl)); skip)
 | (apply evOps_bigYes; (case hg => rfl); (case hgv => (simp [gval, dstB, Xt.enc]; done)); (case hd => (simp [dstB]; done)); (case hb => (simp [evBig, evStep, evPure, Xt.enc]; with_reducible rfl)); skip)
 | (apply evOps_split; (case _hg => rfl); (case _ht => rfl); (case hb => (simp [dstB]; with_reducible rfl)); (case hv => ((fail_if_success (with_reducible exact (rfl : (_ : AV) = AV.d (.val (.bool true)) _))); (fail_if_success (with_reducible exact (rfl : (_ : AV) = AV.d (.val (.bool false)) _))); rfl)); skip)
 | (apply WP_cond; (case hx => (simp [St.eval, dstB, Xt.enc]; with_reducible rfl)); (case hv => rfl); skip))
      exact hW _ ⟨by simp [dstB], by simp [dstB], _, by simp [dstB]; rfl, by simp [dstB]⟩
    refine WP_cut (Base3 n l e q) (fun W hW => ?_) fun σ0 ⟨a0, a2, g4, a4, p4⟩ => ?_
    · repeat' (first
 | (intro h; first | (exfalso; exact Bool.noConfusion h) | (simp only [decide_eq_true_eq, decide_eq_false_iff_not] at h) | skip)
 | (apply evOps_fin; (case hf => (simp only [finGo, app1]; rfl)); skip)
 | refine WP_seq ?_
 | refine WP_scope ?_
 | refine WP_block ?_
 | refine WP_ret ?_
 | refine WP_skip ?_
 | refine WP_exit ?_
 | (apply WP_region; (case hl => rfl); (case hc => (simp only [put_env', put_own', put_ctr', put_none', setOwn_env', setOwn_own', setOwn_ctr', setCtr_env', setCtr_own', setCtr_ctr', entry, entryEnv, entryOwn, inAV, scAV, inOB]; rfl)); (case hc' => (conv => lhs; simp only [List.size_toArray, List.length_cons, List.length_nil, Nat.zero_add, Nat.reduceAdd, Nat.add_assoc])); skip)
 | refine evOps_nil ?_
 | (apply evOps_one; (case hg => rfl); (case h => (simp [evStep, evPure, h6, sp6, a0, a2, a4, p4]; with_reducible rfl)); skip)
 | (apply evOps_yes; (case hg => rfl); (case hb => (simp [gval, dstB, h6, sp6, a0, a2, a4, p4]; done)); (case h => (simp [evStep, evPure, h6, sp6, a0, a2, a4, p4]; with_reducible rfl)); skip)
 | (apply evOps_no; (case hg => rfl); (case hb => (simp [gval, dstB, h6, sp6, a0, a2, a4, p4]; with_reducible rfl)); (case hne => (simp; done)); (case hd => (simp [dstB]; done)); skip)
 | (apply evOps_big; (case hg => rfl); (case hd => (simp [dstB]; done)); (case hb => (simp [evBig, evStep, evPure, h6, sp6, a0, a2, a4, p4]; with_reducible rfl)); skip)
 | (apply evOps_bigYes; (case hg => rfl); (case hgv => (simp [gval, dstB, h6, sp6, a0, a2, a4, p4]; done)); (case hd => (simp [dstB]; done)); (case hb => (simp [evBig, evStep, evPure, h6, sp6, a0, a2, a4, p4]; with_reducible rfl)); skip)
 | (apply evOps_split; (case _hg => rfl); (case _ht => rfl); (case hb => (simp [dstB]; with_reducible rfl)); (case hv => ((fail_if_success (with_reducible exact (rfl : (_ : AV) = AV.d (.val (.bool true)) _))); (fail_if_success (with_reducible exact (rfl : (_ : AV) = AV.d (.val (.bool false)) _))); rfl)); skip)
 | (apply WP_cond; (case hx => (simp [St.eval, dstB, h6, sp6, a0, a2, a4, p4]; with_reducible rfl)); (case hv => rfl); skip))
      exact hW _ ⟨by simp [dstB, a0], by simp [dstB, a2], _, by simp [dstB, a4]; rfl, by simp [dstB, p4]⟩
    refine WP_cut (Base3 n l e q) (fun W hW => ?_) fun σ0 ⟨a0, a2, g4, a4, p4⟩ => ?_
    · repeat' (first
 | (intro h; first | (exfalso; exact Bool.noConfusion h) | (simp only [decide_eq_true_eq, decide_eq_false_iff_not] at h) | skip)
 | (apply evOps_fin; (case hf => (simp only [finGo, app1]; rfl)); skip)
 | refine WP_seq ?_
 | refine WP_scope ?_
 | refine WP_block ?_
 | refine WP_ret ?_
 | refine WP_skip ?_
 | refine WP_exit ?_
 | (apply WP_region; (case hl => rfl); (case hc => (simp only [put_env', put_own', put_ctr', put_none', setOwn_env', setOwn_own', setOwn_ctr', setCtr_env', setCtr_own', setCtr_ctr', entry, entryEnv, entryOwn, inAV, scAV, inOB]; rfl)); (case hc' => (conv => lhs; simp only [List.size_toArray, List.length_cons, List.length_nil, Nat.zero_add, Nat.reduceAdd, Nat.add_assoc])); skip)
 | refine evOps_nil ?_
 | (apply evOps_one; (case hg => rfl); (case h => (simp [evStep, evPure, h7, sp7, decL_enc, hc, a0, a2, a4, p4]; with_reducible rfl)); skip)
 | (apply evOps_yes; (case hg => rfl); (case hb => (simp [gval, dstB, h7, sp7, decL_enc, hc, a0, a2, a4, p4]; done)); (case h => (simp [evStep, evPure, h7, sp7, decL_enc, hc, a0, a2, a4, p4]; with_reducible rfl)); skip)
 | (apply evOps_no; (case hg => rfl); (case hb => (simp [gval, dstB, h7, sp7, decL_enc, hc, a0, a2, a4, p4]; with_reducible rfl)); (case hne => (simp; done)); (case hd => (simp [dstB]; done)); skip)
 | (apply evOps_big; (case hg => rfl); (case hd => (simp [dstB]; done)); (case hb => (simp [evBig, evStep, evPure, h7, sp7, decL_enc, hc, a0, a2, a4, p4]; with_reducible rfl)); skip)
 | (apply evOps_bigYes; (case hg => rfl); (case hgv => (simp [gval, dstB, h7, sp7, decL_enc, hc, a0, a2, a4, p4]; done)); (case hd => (simp [dstB]; done)); (case hb => (simp [evBig, evStep, evPure, h7, sp7, decL_enc, hc, a0, a2, a4, p4]; with_reducible rfl)); skip)
 | (apply evOps_split; (case _hg => rfl); (case _ht => rfl); (case hb => (simp [dstB]; with_reducible rfl)); (case hv => ((fail_if_success (with_reducible exact (rfl : (_ : AV) = AV.d (.val (.bool true)) _))); (fail_if_success (with_reducible exact (rfl : (_ : AV) = AV.d (.val (.bool false)) _))); rfl)); skip)
 | (apply WP_cond; (case hx => (simp [St.eval, dstB, h7, sp7, decL_enc, hc, a0, a2, a4, p4]; with_reducible rfl)); (case hv => rfl); skip))
      exact hW _ ⟨by simp [dstB, a0], by simp [dstB, a2], _, by simp [dstB, a4]; rfl, by simp [dstB, p4]⟩
    refine WP_cut (fun σ => Base3 n l e q σ ∧ Put3 l e σ) (fun W hW => ?_) fun σ0 ⟨⟨a0, a2, g4, a4, p4⟩, h3p⟩ => ?_
    · have r9 := run9' (e := e) hn
      rcases put_cases e hc with ⟨c, hc0, ho⟩ | ⟨a, hpo, ho⟩
      · repeat' (first
 | (intro h; first | (exfalso; exact Bool.noConfusion h) | (simp only [decide_eq_true_eq, decide_eq_false_iff_not] at h) | skip)
 | (apply evOps_fin; (case hf => (simp only [finGo, app1]; rfl)); skip)
 | refine WP_seq ?_
 | refine WP_scope ?_
 | refine WP_block ?_
 | refine WP_ret ?_
 | refine WP_skip ?_
 | refine WP_exit ?_
 | (apply WP_region; (case hl => rfl); (case hc => (simp only [put_env', put_own', put_ctr', put_none', setOwn_env', setOwn_own', setOwn_ctr', setCtr_env', setCtr_own', setCtr_ctr', entry, entryEnv, entryOwn, inAV, scAV, inOB]; rfl)); (case hc' => (conv => lhs; simp only [List.size_toArray, List.length_cons, List.length_nil, Nat.zero_add, Nat.reduceAdd, Nat.add_assoc])); skip)
 | refine evOps_nil ?_
 | (apply evOps_one; (case hg => rfl); (case h => (simp [evStep, evPure, h9, m9, r9, ho, outErr, a0, a2, a4, p4, List.filter_cons]; with_reducible rfl)); skip)
 | (apply evOps_yes; (case hg => rfl); (case hb => (simp [gval, dstB, h9, m9, r9, ho, outErr, a0, a2, a4, p4, List.filter_cons]; done)); (case h => (simp [evStep, evPure, h9, m9, r9, ho, outErr, a0, a2, a4, p4, List.filter_cons]; with_reducible rfl)); skip)
 | (apply evOps_no; (case hg => rfl); (case hb => (simp [gval, dstB, h9, m9, r9, ho, outErr, a0, a2, a4, p4, List.filter_cons]; with_reducible rfl)); (case hne => (simp; done)); (case hd => (simp [dstB]; done)); skip)
 | (apply evOps_big; (case hg => rfl); (case hd => (simp [dstB]; done)); (case hb => (simp [evBig, evStep, evPure, h9, m9, r9, ho, outErr, a0, a2, a4, p4, List.filter_cons]; with_reducible rfl)); skip)
 | (apply evOps_bigYes; (case hg => rfl); (case hgv => (simp [gval, dstB, h9, m9, r9, ho, outErr, a0, a2, a4, p4, List.filter_cons]; done)); (case hd => (simp [dstB]; done)); (case hb => (simp [evBig, evStep, evPure, h9, m9, r9, ho, outErr, a0, a2, a4, p4, List.filter_cons]; with_reducible rfl)); skip)
 | (apply evOps_split; (case _hg => rfl); (case _ht => rfl); (case hb => (simp [dstB]; with_reducible rfl)); (case hv => ((fail_if_success (with_reducible exact (rfl : (_ : AV) = AV.d (.val (.bool true)) _))); (fail_if_success (with_reducible exact (rfl : (_ : AV) = AV.d (.val (.bool false)) _))); rfl)); skip)
 | (apply WP_cond; (case hx => (simp [St.eval, dstB, h9, m9, r9, ho, outErr, a0, a2, a4, p4, List.filter_cons]; with_reducible rfl)); (case hv => rfl); skip))
        exact hW _ ⟨⟨by simp [dstB, a0], by simp [dstB, a2], _, by simp [dstB, a4]; rfl, by simp [dstB, p4]⟩, c, by simp [dstB], .inl ⟨hc0, by simp [dstB]⟩⟩
      · repeat' (first
 | (intro h; first | (exfalso; exact Bool.noConfusion h) | (simp only [decide_eq_true_eq, decide_eq_false_iff_not] at h) | skip)
 | (apply evOps_fin; (case hf => (simp only [finGo, app1]; rfl)); skip)
 | refine WP_seq ?_
 | refine WP_scope ?_
 | refine WP_block ?_
 | refine WP_ret ?_
 | refine WP_skip ?_
 | refine WP_exit ?_
 | (apply WP_region; (case hl => rfl); (case hc => (simp only [put_env', put_own', put_ctr', put_none', setOwn_env', setOwn_own', setOwn_ctr', setCtr_env', setCtr_own', setCtr_ctr', entry, entryEnv, entryOwn, inAV, scAV, inOB]; rfl)); (case hc' => (conv => lhs; simp only [List.size_toArray, List.length_cons, List.length_nil, Nat.zero_add, Nat.reduceAdd, Nat.add_assoc])); skip)
 | refine evOps_nil ?_
 | (apply evOps_one; (case hg => rfl); (case h => (simp [evStep, evPure, h9, m9, r9, ho, a0, a2, a4, p4, List.filter_cons]; with_reducible rfl)); skip)
 | (apply evOps_yes; (case hg => rfl); (case hb => (simp [gval, dstB, h9, m9, r9, ho, a0, a2, a4, p4, List.filter_cons]; done)); (case h => (simp [evStep, evPure, h9, m9, r9, ho, a0, a2, a4, p4, List.filter_cons]; with_reducible rfl)); skip)
 | (apply evOps_no; (case hg => rfl); (case hb => (simp [gval, dstB, h9, m9, r9, ho, a0, a2, a4, p4, List.filter_cons]; with_reducible rfl)); (case hne => (simp; done)); (case hd => (simp [dstB]; done)); skip)
 | (apply evOps_big; (case hg => rfl); (case hd => (simp [dstB]; done)); (case hb => (simp [evBig, evStep, evPure, h9, m9, r9, ho, a0, a2, a4, p4, List.filter_cons]; with_reducible rfl)); skip)
 | (apply evOps_bigYes; (case hg => rfl); (case hgv => (simp [gval, dstB, h9, m9, r9, ho, a0, a2, a4, p4, List.filter_cons]; done)); (case hd => (simp [dstB]; done)); (case hb => (simp [evBig, evStep, evPure, h9, m9, r9, ho, a0, a2, a4, p4, List.filter_cons]; with_reducible rfl)); skip)
 | (apply evOps_split; (case _hg => rfl); (case _ht => rfl); (case hb => (simp [dstB]; with_reducible rfl)); (case hv => ((fail_if_success (with_reducible exact (rfl : (_ : AV) = AV.d (.val (.bool true)) _))); (fail_if_success (with_reducible exact (rfl : (_ : AV) = AV.d (.val (.bool false)) _))); rfl)); skip)
 | (apply WP_cond; (case hx => (simp [St.eval, dstB, h9, m9, r9, ho, a0, a2, a4, p4, List.filter_cons]; with_reducible rfl)); (case hv => rfl); skip))
        exact hW _ ⟨⟨by simp [dstB, a0], by simp [dstB, a2], _, by simp [dstB, a4]; rfl, by simp [dstB, p4]⟩, 0, by simp [dstB], .inr ⟨rfl, a, _, hpo, by simp [dstB]; rfl, by simp [dstB]⟩⟩
    refine WP_cut (fun σ => Base3 n l e q σ ∧ Put3 l e σ ∧ Cut3 l e.at' q σ) (fun W hW => ?_) fun σ0 ⟨⟨a0, a2, g4, a4, p4⟩, h3p, h3c⟩ => ?_
    · have r10 := run10' (n := n) (l := l) (p := e.at') (q := q)
      rcases cut_cases (l := l) e.at' q with ⟨c, hc0, ho⟩ | ⟨b, xs, hpo, ho⟩
      · repeat' (first
 | (intro h; first | (exfalso; exact Bool.noConfusion h) | (simp only [decide_eq_true_eq, decide_eq_false_iff_not] at h) | skip)
 | (apply evOps_fin; (case hf => (simp only [finGo, app1]; rfl)); skip)
 | refine WP_seq ?_
 | refine WP_scope ?_
 | refine WP_block ?_
 | refine WP_ret ?_
 | refine WP_skip ?_
 | refine WP_exit ?_
 | (apply WP_region; (case hl => rfl); (case hc => (simp only [put_env', put_own', put_ctr', put_none', setOwn_env', setOwn_own', setOwn_ctr', setCtr_env', setCtr_own', setCtr_ctr', entry, entryEnv, entryOwn, inAV, scAV, inOB]; rfl)); (case hc' => (conv => lhs; simp only [List.size_toArray, List.length_cons, List.length_nil, Nat.zero_add, Nat.reduceAdd, Nat.add_assoc])); skip)
 | refine evOps_nil ?_
 | (apply evOps_one; (case hg => rfl); (case h => (simp [evStep, evPure, h10, m10, r10, ho, a0, a2, a4, p4, List.filter_cons]; with_reducible rfl)); skip)
 | (apply evOps_yes; (case hg => rfl); (case hb => (simp [gval, dstB, h10, m10, r10, ho, a0, a2, a4, p4, List.filter_cons]; done)); (case h => (simp [evStep, evPure, h10, m10, r10, ho, a0, a2, a4, p4, List.filter_cons]; with_reducible rfl)); skip)
 | (apply evOps_no; (case hg => rfl); (case hb => (simp [gval, dstB, h10, m10, r10, ho, a0, a2, a4, p4, List.filter_cons]; with_reducible rfl)); (case hne => (simp; done)); (case hd => (simp [dstB]; done)); skip)
 | (apply evOps_big; (case hg => rfl); (case hd => (simp [dstB]; done)); (case hb => (simp [evBig, evStep, evPure, h10, m10, r10, ho, a0, a2, a4, p4, List.filter_cons]; with_reducible rfl)); skip)
 | (apply evOps_bigYes; (case hg => rfl); (case hgv => (simp [gval, dstB, h10, m10, r10, ho, a0, a2, a4, p4, List.filter_cons]; done)); (case hd => (simp [dstB]; done)); (case hb => (simp [evBig, evStep, evPure, h10, m10, r10, ho, a0, a2, a4, p4, List.filter_cons]; with_reducible rfl)); skip)
 | (apply evOps_split; (case _hg => rfl); (case _ht => rfl); (case hb => (simp [dstB]; with_reducible rfl)); (case hv => ((fail_if_success (with_reducible exact (rfl : (_ : AV) = AV.d (.val (.bool true)) _))); (fail_if_success (with_reducible exact (rfl : (_ : AV) = AV.d (.val (.bool false)) _))); rfl)); skip)
 | (apply WP_cond; (case hx => (simp [St.eval, dstB, h10, m10, r10, ho, a0, a2, a4, p4, List.filter_cons]; with_reducible rfl)); (case hv => rfl); skip))
        exact hW _ ⟨⟨by simp [dstB, a0], by simp [dstB, a2], _, by simp [dstB, a4]; rfl, by simp [dstB, p4]⟩, h3p.of (by simp [dstB]) (by simp [dstB]) (by simp [dstB]), c, by simp [dstB], .inl ⟨hc0, by simp [dstB]⟩⟩
      · repeat' (first
 | (intro h; first | (exfalso; exact Bool.noConfusion h) | (simp only [decide_eq_true_eq, decide_eq_false_iff_not] at h) | skip)
 | (apply evOps_fin; (case hf => (simp only [finGo, app1]; rfl)); skip)
 | refine WP_seq ?_
 | refine WP_scope ?_
 | refine WP_block ?_
 | refine WP_ret ?_
 | refine WP_skip ?_
 | refine WP_exit ?_
 | (apply WP_region; (case hl => rfl); (case hc => (simp only [put_env', put_own', put_ctr', put_none', setOwn_env', setOwn_own', setOwn_ctr', setCtr_env', setCtr_own', setCtr_ctr', entry, entryEnv, entryOwn, inAV, scAV, inOB]; rfl)); (case hc' => (conv => lhs; simp only [List.size_toArray, List.length_cons, List.length_nil, Nat.zero_add, Nat.reduceAdd, Nat.add_assoc])); skip)
 | refine evOps_nil ?_
 | (apply evOps_one; (case hg => rfl); (case h => (simp [evStep, evPure, h10, m10, r10, ho, outSl, a0, a2, a4, p4, List.filter_cons]; with_reducible rfl)); skip)
 | (apply evOps_yes; (case hg => rfl); (case hb => (simp [gval, dstB, h10, m10, r10, ho, outSl, a0, a2, a4, p4, List.filter_cons]; done)); (case h => (simp [evStep, evPure, h10, m10, r10, ho, outSl, a0, a2, a4, p4, List.filter_cons]; with_reducible rfl)); skip)
 | (apply evOps_no; (case hg => rfl); (case hb => (simp [gval, dstB, h10, m10, r10, ho, outSl, a0, a2, a4, p4, List.filter_cons]; with_reducible rfl)); (case hne => (simp; done)); (case hd => (simp [dstB]; done)); skip)
 | (apply evOps_big; (case hg => rfl); (case hd => (simp [dstB]; done)); (case hb => (simp [evBig, evStep, evPure, h10, m10, r10, ho, outSl, a0, a2, a4, p4, List.filter_cons]; with_reducible rfl)); skip)
 | (apply evOps_bigYes; (case hg => rfl); (case hgv => (simp [gval, dstB, h10, m10, r10, ho, outSl, a0, a2, a4, p4, List.filter_cons]; done)); (case hd => (simp [dstB]; done)); (case hb => (simp [evBig, evStep, evPure, h10, m10, r10, ho, outSl, a0, a2, a4, p4, List.filter_cons]; with_reducible rfl)); skip)
 | (apply evOps_split; (case _hg => rfl); (case _ht => rfl); (case hb => (simp [dstB]; with_reducible rfl)); (case hv => ((fail_if_success (with_reducible exact (rfl : (_ : AV) = AV.d (.val (.bool true)) _))); (fail_if_success (with_reducible exact (rfl : (_ : AV) = AV.d (.val (.bool false)) _))); rfl)); skip)
 | (apply WP_cond; (case hx => (simp [St.eval, dstB, h10, m10, r10, ho, outSl, a0, a2, a4, p4, List.filter_cons]; with_reducible rfl)); (case hv => rfl); skip))
        exact hW _ ⟨⟨by simp [dstB, a0], by simp [dstB, a2], _, by simp [dstB, a4]; rfl, by simp [dstB, p4]⟩, h3p.of (by simp [dstB]) (by simp [dstB]) (by simp [dstB]), 0, by simp [dstB], .inr ⟨rfl, b, hpo, by simp [dstB]⟩⟩
    refine WP_cut (All3 n l e q) (fun W hW => ?_) fun σ0 hall => ?_
    · have r11 := run11' (n := n) (l := l) (p := e.at') (q := q)
      rcases mark_cases (l := l) e.at' q with ⟨c, hc0, ho⟩ | ⟨b, hpo, ho⟩
      · repeat' (first
 | (intro h; first | (exfalso; exact Bool.noConfusion h) | (simp only [decide_eq_true_eq, decide_eq_false_iff_not] at h) | skip)
 | (apply evOps_fin; (case hf => (simp only [finGo, app1]; rfl)); skip)
 | refine WP_seq ?_
 | refine WP_scope ?_
 | refine WP_block ?_
 | refine WP_ret ?_
 | refine WP_skip ?_
 | refine WP_exit ?_
 | (apply WP_region; (case hl => rfl); (case hc => (simp only [put_env', put_own', put_ctr', put_none', setOwn_env', setOwn_own', setOwn_ctr', setCtr_env', setCtr_own', setCtr_ctr', entry, entryEnv, entryOwn, inAV, scAV, inOB]; rfl)); (case hc' => (conv => lhs; simp only [List.size_toArray, List.length_cons, List.length_nil, Nat.zero_add, Nat.reduceAdd, Nat.add_assoc])); skip)
 | refine evOps_nil ?_
 | (apply evOps_one; (case hg => rfl); (case h => (simp [evStep, evPure, h11, m11, r11, ho, outErr, a0, a2, a4, p4, List.filter_cons]; with_reducible rfl)); skip)
 | (apply evOps_yes; (case hg => rfl); (case hb => (simp [gval, dstB, h11, m11, r11, ho, outErr, a0, a2, a4, p4, List.filter_cons]; done)); (case h => (simp [evStep, evPure, h11, m11, r11, ho, outErr, a0, a2, a4, p4, List.filter_cons]; with_reducible rfl)); skip)
 | (apply evOps_no; (case hg => rfl); (case hb => (simp [gval, dstB, h11, m11, r11, ho, outErr, a0, a2, a4, p4, List.filter_cons]; with_reducible rfl)); (case hne => (simp; done)); (case hd => (simp [dstB]; done)); skip)
 | (apply evOps_big; (case hg => rfl); (case hd => (simp [dstB]; done)); (case hb => (simp [evBig, evStep, evPure, h11, m11, r11, ho, outErr, a0, a2, a4, p4, List.filter_cons]; with_reducible rfl)); skip)
 | (apply evOps_bigYes; (case hg => rfl); (case hgv => (simp [gval, dstB, h11, m11, r11, ho, outErr, a0, a2, a4, p4, List.filter_cons]; done)); (case hd => (simp [dstB]; done)); (case hb => (simp [evBig, evStep, evPure, h11, m11, r11, ho, outErr, a0, a2, a4, p4, List.filter_cons]; with_reducible rfl)); skip)
 | (apply evOps_split; (case _hg => rfl); (case _ht => rfl); (case hb => (simp [dstB]; with_reducible rfl)); (case hv => ((fail_if_success (with_reducible exact (rfl : (_ : AV) = AV.d (.val (.bool true)) _))); (fail_if_success (with_reducible exact (rfl : (_ : AV) = AV.d (.val (.bool false)) _))); rfl)); skip)
 | (apply WP_cond; (case hx => (simp [St.eval, dstB, h11, m11, r11, ho, outErr, a0, a2, a4, p4, List.filter_cons]; with_reducible rfl)); (case hv => rfl); skip))
        exact hW _ ⟨⟨by simp [dstB, a0], by simp [dstB, a2], _, by simp [dstB, a4]; rfl, by simp [dstB, p4]⟩, h3p.of (by simp [dstB]) (by simp [dstB]) (by simp [dstB]), h3c.of (by simp [dstB]) (by simp [dstB]), c, by simp [dstB], .inl ⟨hc0, by simp [dstB]⟩⟩
      · repeat' (first
 | (intro h; first | (exfalso; exact Bool.noConfusion h) | (simp only [decide_eq_true_eq, decide_eq_false_iff_not] at h) | skip)
 | (apply evOps_fin; (case hf => (simp only [finGo, app1]; rfl)); skip)
 | refine WP_seq ?_
 | refine WP_scope ?_
 | refine WP_block ?_
 | refine WP_ret ?_
 | refine WP_skip ?_
 | refine WP_exit ?_
 | (apply WP_region; (case hl => rfl); (case hc => (simp only [put_env', put_own', put_ctr', put_none', setOwn_env', setOwn_own', setOwn_ctr', setCtr_env', setCtr_own', setCtr_ctr', entry, entryEnv, entryOwn, inAV, scAV, inOB]; rfl)); (case hc' => (conv => lhs; simp only [List.size_toArray, List.length_cons, List.length_nil, Nat.zero_add, Nat.reduceAdd, Nat.add_assoc])); skip)
 | refine evOps_nil ?_
 | (apply evOps_one; (case hg => rfl); (case h => (simp [evStep, evPure, h11, m11, r11, ho, outSl, a0, a2, a4, p4, List.filter_cons]; with_reducible rfl)); skip)
 | (apply evOps_yes; (case hg => rfl); (case hb => (simp [gval, dstB, h11, m11, r11, ho, outSl, a0, a2, a4, p4, List.filter_cons]; done)); (case h => (simp [evStep, evPure, h11, m11, r11, ho, outSl, a0, a2, a4, p4, List.filter_cons]; with_reducible rfl)); skip)
 | (apply evOps_no; (case hg => rfl); (case hb => (simp [gval, dstB, h11, m11, r11, ho, outSl, a0, a2, a4, p4, List.filter_cons]; with_reducible rfl)); (case hne => (simp; done)); (case hd => (simp [dstB]; done)); skip)
 | (apply evOps_big; (case hg => rfl); (case hd => (simp [dstB]; done)); (case hb => (simp [evBig, evStep, evPure, h11, m11, r11, ho, outSl, a0, a2, a4, p4, List.filter_cons]; with_reducible rfl)); skip)
 | (apply evOps_bigYes; (case hg => rfl); (case hgv => (simp [gval, dstB, h11, m11, r11, ho, outSl, a0, a2, a4, p4, List.filter_cons]; done)); (case hd => (simp [dstB]; done)); (case hb => (simp [evBig, evStep, evPure, h11, m11, r11, ho, outSl, a0, a2, a4, p4, List.filter_cons]; with_reducible rfl)); skip)
 | (apply evOps_split; (case _hg => rfl); (case _ht => rfl); (case hb => (simp [dstB]; with_reducible rfl)); (case hv => ((fail_if_success (with_reducible exact (rfl : (_ : AV) = AV.d (.val (.bool true)) _))); (fail_if_success (with_reducible exact (rfl : (_ : AV) = AV.d (.val (.bool false)) _))); rfl)); skip)
 | (apply WP_cond; (case hx => (simp [St.eval, dstB, h11, m11, r11, ho, outSl, a0, a2, a4, p4, List.filter_cons]; with_reducible rfl)); (case hv => rfl); skip))
        exact hW _ ⟨⟨by simp [dstB, a0], by simp [dstB, a2], _, by simp [dstB, a4]; rfl, by simp [dstB, p4]⟩, h3p.of (by simp [dstB]) (by simp [dstB]) (by simp [dstB]), h3c.of (by simp [dstB]) (by simp [dstB]), 0, by simp [dstB], .inr ⟨rfl, b, hpo, by simp [dstB]⟩⟩
    refine WP_cut (All3 n l e q) (fun W hW => ?_) fun σ0 hall => ?_
    · obtain ⟨⟨a0, a2, g4, a4, p4⟩, ⟨f, f8, hf⟩, ⟨g, f11, hg⟩, ⟨h, f13, hh⟩⟩ := id hall
      rcases hf with ⟨hf, f7⟩ | ⟨rfl, a, ga, hpo, f7, o40⟩
      · rcases hg with ⟨hg, f9⟩ | ⟨rfl, b, hco, f9⟩
        · rcases hh with ⟨hh, f12⟩ | ⟨rfl, c, hmo, f12⟩
          · repeat' (first
 | (intro h; first | (exfalso; exact Bool.noConfusion h) | (simp only [decide_eq_true_eq, decide_eq_false_iff_not] at h) | skip)
 | (apply evOps_fin; (case hf => (simp only [finGo, app1]; rfl)); skip)
 | refine WP_seq ?_
 | refine WP_scope ?_
 | refine WP_block ?_
 | refine WP_ret ?_
 | refine WP_skip ?_
 | refine WP_exit ?_
 | (apply WP_region; (case hl => rfl); (case hc => (simp only [put_env', put_own', put_ctr', put_none', setOwn_env', setOwn_own', setOwn_ctr', setCtr_env', setCtr_own', setCtr_ctr', entry, entryEnv, entryOwn, inAV, scAV, inOB]; rfl)); (case hc' => (conv => lhs; simp only [List.size_toArray, List.length_cons, List.length_nil, Nat.zero_add, Nat.reduceAdd, Nat.add_assoc])); skip)
 | refine evOps_nil ?_
 | (apply evOps_one; (case hg => rfl); (case h => (simp [evStep, evPure, h7, sp7, decL_enc, f8, f7, f11, f9, f13, f12, hf, hg, hh]; with_reducible rfl)); skip)
 | (apply evOps_yes; (case hg => rfl); (case hb => (simp [gval, dstB, h7, sp7, decL_enc, f8, f7, f11, f9, f13, f12, hf, hg, hh]; done)); (case h => (simp [evStep, evPure, h7, sp7, decL_enc, f8, f7, f11, f9, f13, f12, hf, hg, hh]; with_reducible rfl)); skip)
 | (apply evOps_no; (case hg => rfl); (case hb => (simp [gval, dstB, h7, sp7, decL_enc, f8, f7, f11, f9, f13, f12, hf, hg, hh]; with_reducible rfl)); (case hne => (simp; done)); (case hd => (simp [dstB]; done)); skip)
 | (apply evOps_big; (case hg => rfl); (case hd => (simp [dstB]; done)); (case hb => (simp [evBig, evStep, evPure, h7, sp7, decL_enc, f8, f7, f11, f9, f13, f12, hf, hg, hh]; with_reducible rfl)); skip)
 | (apply evOps_bigYes; (case hg => rfl); (case hgv => (simp [gval, dstB, h7, sp7, decL_enc, f8, f7, f11, f9, f13, f12, hf, hg, hh]; done)); (case hd => (simp [dstB]; done)); (case hb => (simp [evBig, evStep, evPure, h7, sp7, decL_enc, f8, f7, f11, f9, f13, f12, hf, hg, hh]; with_reducible rfl)); skip)
 | (apply evOps_split; (case _hg => rfl); (case _ht => rfl); (case hb => (simp [dstB]; with_reducible rfl)); (case hv => ((fail_if_success (with_reducible exact (rfl : (_ : AV) = AV.d (.val (.bool true)) _))); (fail_if_success (with_reducible exact (rfl : (_ : AV) = AV.d (.val (.bool false)) _))); rfl)); skip)
 | (apply WP_cond; (case hx => (simp [St.eval, dstB, h7, sp7, decL_enc, f8, f7, f11, f9, f13, f12, hf, hg, hh]; with_reducible rfl)); (case hv => rfl); skip))
            exact hW _ (hall.of (by simp [S12, dstB]))
          · repeat' (first
 | (intro h; first | (exfalso; exact Bool.noConfusion h) | (simp only [decide_eq_true_eq, decide_eq_false_iff_not] at h) | skip)
 | (apply evOps_fin; (case hf => (simp only [finGo, app1]; rfl)); skip)
 | refine WP_seq ?_
 | refine WP_scope ?_
 | refine WP_block ?_
 | refine WP_ret ?_
 | refine WP_skip ?_
 | refine WP_exit ?_
 | (apply WP_region; (case hl => rfl); (case hc => (simp only [put_env', put_own', put_ctr', put_none', setOwn_env', setOwn_own', setOwn_ctr', setCtr_env', setCtr_own', setCtr_ctr', entry, entryEnv, entryOwn, inAV, scAV, inOB]; rfl)); (case hc' => (conv => lhs; simp only [List.size_toArray, List.length_cons, List.length_nil, Nat.zero_add, Nat.reduceAdd, Nat.add_assoc])); skip)
 | refine evOps_nil ?_
 | (apply evOps_one; (case hg => rfl); (case h => (simp [evStep, evPure, h7, sp7, decL_enc, f8, f7, f11, f9, f13, f12, hf, hg, hmo.c]; with_reducible rfl)); skip)
 | (apply evOps_yes; (case hg => rfl); (case hb => (simp [gval, dstB, h7, sp7, decL_enc, f8, f7, f11, f9, f13, f12, hf, hg, hmo.c]; done)); (case h => (simp [evStep, evPure, h7, sp7, decL_enc, f8, f7, f11, f9, f13, f12, hf, hg, hmo.c]; with_reducible rfl)); skip)
 | (apply evOps_no; (case hg => rfl); (case hb => (simp [gval, dstB, h7, sp7, decL_enc, f8, f7, f11, f9, f13, f12, hf, hg, hmo.c]; with_reducible rfl)); (case hne => (simp; done)); (case hd => (simp [dstB]; done)); skip)
 | (apply evOps_big; (case hg => rfl); (case hd => (simp [dstB]; done)); (case hb => (simp [evBig, evStep, evPure, h7, sp7, decL_enc, f8, f7, f11, f9, f13, f12, hf, hg, hmo.c]; with_reducible rfl)); skip)
 | (apply evOps_bigYes; (case hg => rfl); (case hgv => (simp [gval, dstB, h7, sp7, decL_enc, f8, f7, f11, f9, f13, f12, hf, hg, hmo.c]; done)); (case hd => (simp [dstB]; done)); (case hb => (simp [evBig, evStep, evPure, h7, sp7, decL_enc, f8, f7, f11, f9, f13, f12, hf, hg, hmo.c]; with_reducible rfl)); skip)
 | (apply evOps_split; (case _hg => rfl); (case _ht => rfl); (case hb => (simp [dstB]; with_reducible rfl)); (case hv => ((fail_if_success (with_reducible exact (rfl : (_ : AV) = AV.d (.val (.bool true)) _))); (fail_if_success (with_reducible exact (rfl : (_ : AV) = AV.d (.val (.bool false)) _))); rfl)); skip)
 | (apply WP_cond; (case hx => (simp [St.eval, dstB, h7, sp7, decL_enc, f8, f7, f11, f9, f13, f12, hf, hg, hmo.c]; with_reducible rfl)); (case hv => rfl); skip))
            exact hW _ (hall.of (by simp [S12, dstB]))
        · rcases hh with ⟨hh, f12⟩ | ⟨rfl, c, hmo, f12⟩
          · repeat' (first
 | (intro h; first | (exfalso; exact Bool.noConfusion h) | (simp only [decide_eq_true_eq, decide_eq_false_iff_not] at h) | skip)
 | (apply evOps_fin; (case hf => (simp only [finGo, app1]; rfl)); skip)
 | refine WP_seq ?_
 | refine WP_scope ?_
 | refine WP_block ?_
 | refine WP_ret ?_
 | refine WP_skip ?_
 | refine WP_exit ?_
 | (apply WP_region; (case hl => rfl); (case hc => (simp only [put_env', put_own', put_ctr', put_none', setOwn_env', setOwn_own', setOwn_ctr', setCtr_env', setCtr_own', setCtr_ctr', entry, entryEnv, entryOwn, inAV, scAV, inOB]; rfl)); (case hc' => (conv => lhs; simp only [List.size_toArray, List.length_cons, List.length_nil, Nat.zero_add, Nat.reduceAdd, Nat.add_assoc])); skip)
 | refine evOps_nil ?_
 | (apply evOps_one; (case hg => rfl); (case h => (simp [evStep, evPure, h7, sp7, decL_enc, f8, f7, f11, f9, f13, f12, hf, hco.c, hh]; with_reducible rfl)); skip)
 | (apply evOps_yes; (case hg => rfl); (case hb => (simp [gval, dstB, h7, sp7, decL_enc, f8, f7, f11, f9, f13, f12, hf, hco.c, hh]; done)); (case h => (simp [evStep, evPure, h7, sp7, decL_enc, f8, f7, f11, f9, f13, f12, hf, hco.c, hh]; with_reducible rfl)); skip)
 | (apply evOps_no; (case hg => rfl); (case hb => (simp [gval, dstB, h7, sp7, decL_enc, f8, f7, f11, f9, f13, f12, hf, hco.c, hh]; with_reducible rfl)); (case hne => (simp; done)); (case hd => (simp [dstB]; done)); skip)
 | (apply evOps_big; (case hg => rfl); (case hd => (simp [dstB]; done)); (case hb => (simp [evBig, evStep, evPure, h7, sp7, decL_enc, f8, f7, f11, f9, f13, f12, hf, hco.c, hh]; with_reducible rfl)); skip)
 | (apply evOps_bigYes; (case hg => rfl); (case hgv => (simp [gval, dstB, h7, sp7, decL_enc, f8, f7, f11, f9, f13, f12, hf, hco.c, hh]; done)); (case hd => (simp [dstB]; done)); (case hb => (simp [evBig, evStep, evPure, h7, sp7, decL_enc, f8, f7, f11, f9, f13, f12, hf, hco.c, hh]; with_reducible rfl)); skip)
 | (apply evOps_split; (case _hg => rfl); (case _ht => rfl); (case hb => (simp [dstB]; with_reducible rfl)); (case hv => ((fail_if_success (with_reducible exact (rfl : (_ : AV) = AV.d (.val (.bool true)) _))); (fail_if_success (with_reducible exact (rfl : (_ : AV) = AV.d (.val (.bool false)) _))); rfl)); skip)
 | (apply WP_cond; (case hx => (simp [St.eval, dstB, h7, sp7, decL_enc, f8, f7, f11, f9, f13, f12, hf, hco.c, hh]; with_reducible rfl)); (case hv => rfl); skip))
            exact hW _ (hall.of (by simp [S12, dstB]))
          · repeat' (first
 | (intro h; first | (exfalso; exact Bool.noConfusion h) | (simp only [decide_eq_true_eq, decide_eq_false_iff_not] at h) | skip)
 | (apply evOps_fin; (case hf => (simp only [finGo, app1]; rfl)); skip)
 | refine WP_seq ?_
 | refine WP_scope ?_
 | refine WP_block ?_
 | refine WP_ret ?_
 | refine WP_skip ?_
 | refine WP_exit ?_
 | (apply WP_region; (case hl => rfl); (case hc => (simp only [put_env', put_own', put_ctr', put_none', setOwn_env', setOwn_own', setOwn_ctr', setCtr_env', setCtr_own', setCtr_ctr', entry, entryEnv, entryOwn, inAV, scAV, inOB]; rfl)); (case hc' => (conv => lhs; simp only [List.size_toArray, List.length_cons, List.length_nil, Nat.zero_add, Nat.reduceAdd, Nat.add_assoc])); skip)
 | refine evOps_nil ?_
 | (apply evOps_one; (case hg => rfl); (case h => (simp [evStep, evPure, h7, sp7, decL_enc, f8, f7, f11, f9, f13, f12, hf, hco.c, hmo.c]; with_reducible rfl)); skip)
 | (apply evOps_yes; (case hg => rfl); (case hb => (simp [gval, dstB, h7, sp7, decL_enc, f8, f7, f11, f9, f13, f12, hf, hco.c, hmo.c]; done)); (case h => (simp [evStep, evPure, h7, sp7, decL_enc, f8, f7, f11, f9, f13, f12, hf, hco.c, hmo.c]; with_reducible rfl)); skip)
 | (apply evOps_no; (case hg => rfl); (case hb => (simp [gval, dstB, h7, sp7, decL_enc, f8, f7, f11, f9, f13, f12, hf, hco.c, hmo.c]; with_reducible rfl)); (case hne => (simp; done)); (case hd => (simp [dstB]; done)); skip)
 | (apply evOps_big; (case hg => rfl); (case hd => (simp [dstB]; done)); (case hb => (simp [evBig, evStep, evPure, h7, sp7, decL_enc, f8, f7, f11, f9, f13, f12, hf, hco.c, hmo.c]; with_reducible rfl)); skip)
 | (apply evOps_bigYes; (case hg => rfl); (case hgv => (simp [gval, dstB, h7, sp7, decL_enc, f8, f7, f11, f9, f13, f12, hf, hco.c, hmo.c]; done)); (case hd => (simp [dstB]; done)); (case hb => (simp [evBig, evStep, evPure, h7, sp7, decL_enc, f8, f7, f11, f9, f13, f12, hf, hco.c, hmo.c]; with_reducible rfl)); skip)
 | (apply evOps_split; (case _hg => rfl); (case _ht => rfl); (case hb => (simp [dstB]; with_reducible rfl)); (case hv => ((fail_if_success (with_reducible exact (rfl : (_ : AV) = AV.d (.val (.bool true)) _))); (fail_if_success (with_reducible exact (rfl : (_ : AV) = AV.d (.val (.bool false)) _))); rfl)); skip)
 | (apply WP_cond; (case hx => (simp [St.eval, dstB, h7, sp7, decL_enc, f8, f7, f11, f9, f13, f12, hf, hco.c, hmo.c]; with_reducible rfl)); (case hv => rfl); skip))
            exact hW _ (hall.of (by simp [S12, dstB]))
      · have htk : List.take a.length (a.map Xt.enc) = a.map Xt.enc := List.take_of_length_le (by simp)
        rcases hg with ⟨hg, f9⟩ | ⟨rfl, b, hco, f9⟩
        · rcases hh with ⟨hh, f12⟩ | ⟨rfl, c, hmo, f12⟩
          · repeat' (first
 | (intro h; first | (exfalso; exact Bool.noConfusion h) | (simp only [decide_eq_true_eq, decide_eq_false_iff_not] at h) | skip)
 | (apply evOps_fin; (case hf => (simp only [finGo, app1]; rfl)); skip)
 | refine WP_seq ?_
 | refine WP_scope ?_
 | refine WP_block ?_
 | refine WP_ret ?_
 | refine WP_skip ?_
 | refine WP_exit ?_
 | (apply WP_region; (case hl => rfl); (case hc => (simp only [put_env', put_own', put_ctr', put_none', setOwn_env', setOwn_own', setOwn_ctr', setCtr_env', setCtr_own', setCtr_ctr', entry, entryEnv, entryOwn, inAV, scAV, inOB]; rfl)); (case hc' => (conv => lhs; simp only [List.size_toArray, List.length_cons, List.length_nil, Nat.zero_add, Nat.reduceAdd, Nat.add_assoc])); skip)
 | refine evOps_nil ?_
 | (apply evOps_one; (case hg => rfl); (case h => (simp [evStep, evPure, h7, sp7, decL_enc, f8, f7, f11, f9, f13, f12, o40, htk, hpo.c, hg, hh]; with_reducible rfl)); skip)
 | (apply evOps_yes; (case hg => rfl); (case hb => (simp [gval, dstB, h7, sp7, decL_enc, f8, f7, f11, f9, f13, f12, o40, htk, hpo.c, hg, hh]; done)); (case h => (simp [evStep, evPure, h7, sp7, decL_enc, f8, f7, f11, f9, f13, f12, o40, htk, hpo.c, hg, hh]; with_reducible rfl)); skip)
 | (apply evOps_no; (case hg => rfl); (case hb => (simp [gval, dstB, h7, sp7, decL_enc, f8, f7, f11, f9, f13, f12, o40, htk, hpo.c, hg, hh]; with_reducible rfl)); (case hne => (simp; done)); (case hd => (simp [dstB]; done)); skip)
 | (apply evOps_big; (case hg => rfl); (case hd => (simp [dstB]; done)); (case hb => (simp [evBig, evStep, evPure, h7, sp7, decL_enc, f8, f7, f11, f9, f13, f12, o40, htk, hpo.c, hg, hh]; with_reducible rfl)); skip)
 | (apply evOps_bigYes; (case hg => rfl); (case hgv => (simp [gval, dstB, h7, sp7, decL_enc, f8, f7, f11, f9, f13, f12, o40, htk, hpo.c, hg, hh]; done)); (case hd => (simp [dstB]; done)); (case hb => (simp [evBig, evStep, evPure, h7, sp7, decL_enc, f8, f7, f11, f9, f13, f12, o40, htk, hpo.c, hg, hh]; with_reducible rfl)); skip)
 | (apply evOps_split; (case _hg => rfl); (case _ht => rfl); (case hb => (simp [dstB]; with_reducible rfl)); (case hv => ((fail_if_success (with_reducible exact (rfl : (_ : AV) = AV.d (.val (.bool true)) _))); (fail_if_success (with_reducible exact (rfl : (_ : AV) = AV.d (.val (.bool false)) _))); rfl)); skip)
 | (apply WP_cond; (case hx => (simp [St.eval, dstB, h7, sp7, decL_enc, f8, f7, f11, f9, f13, f12, o40, htk, hpo.c, hg, hh]; with_reducible rfl)); (case hv => rfl); skip))
            exact hW _ (hall.of (by simp [S12, dstB]))
          · repeat' (first
 | (intro h; first | (exfalso; exact Bool.noConfusion h) | (simp only [decide_eq_true_eq, decide_eq_false_iff_not] at h) | skip)
 | (apply evOps_fin; (case hf => (simp only [finGo, app1]; rfl)); skip)
 | refine WP_seq ?_
 | refine WP_scope ?_
 | refine WP_block ?_
 | refine WP_ret ?_
 | refine WP_skip ?_
 | refine WP_exit ?_
 | (apply WP_region; (case hl => rfl); (case hc => (simp only [put_env', put_own', put_ctr', put_none', setOwn_env', setOwn_own', setOwn_ctr', setCtr_env', setCtr_own', setCtr_ctr', entry, entryEnv, entryOwn, inAV, scAV, inOB]; rfl)); (case hc' => (conv => lhs; simp only [List.size_toArray, List.length_cons, List.length_nil, Nat.zero_add, Nat.reduceAdd, Nat.add_assoc])); skip)
 | refine evOps_nil ?_
 | (apply evOps_one; (case hg => rfl); (case h => (simp [evStep, evPure, h7, sp7, decL_enc, f8, f7, f11, f9, f13, f12, o40, htk, hpo.c, hg, hmo.c]; with_reducible rfl)); skip)
 | (apply evOps_yes; (case hg => rfl); (case hb => (simp [gval, dstB, h7, sp7, decL_enc, f8, f7, f11, f9, f13, f12, o40, htk, hpo.c, hg, hmo.c]; done)); (case h => (simp [evStep, evPure, h7, sp7, decL_enc, f8, f7, f11, f9, f13, f12, o40, htk, hpo.c, hg, hmo.c]; with_reducible rfl)); skip)
 | (apply evOps_no; (case hg => rfl); (case hb => (simp [gval, dstB, h7, sp7, decL_enc, f8, f7, f11, f9, f13, f12, o40, htk, hpo.c, hg, hmo.c]; with_reducible rfl)); (case hne => (simp; done)); (case hd => (simp [dstB]; done)); skip)
 | (apply evOps_big; (case hg => rfl); (case hd => (simp [dstB]; done)); (case hb => (simp [evBig, evStep, evPure, h7, sp7, decL_enc, f8, f7, f11, f9, f13, f12, o40, htk, hpo.c, hg, hmo.c]; with_reducible rfl)); skip)
 | (apply evOps_bigYes; (case hg => rfl); (case hgv => (simp [gval, dstB, h7, sp7, decL_enc, f8, f7, f11, f9, f13, f12, o40, htk, hpo.c, hg, hmo.c]; done)); (case hd => (simp [dstB]; done)); (case hb => (simp [evBig, evStep, evPure, h7, sp7, decL_enc, f8, f7, f11, f9, f13, f12, o40, htk, hpo.c, hg, hmo.c]; with_reducible rfl)); skip)
 | (apply evOps_split; (case _hg => rfl); (case _ht => rfl); (case hb => (simp [dstB]; with_reducible rfl)); (case hv => ((fail_if_success (with_reducible exact (rfl : (_ : AV) = AV.d (.val (.bool true)) _))); (fail_if_success (with_reducible exact (rfl : (_ : AV) = AV.d (.val (.bool false)) _))); rfl)); skip)
 | (apply WP_cond; (case hx => (simp [St.eval, dstB, h7, sp7, decL_enc, f8, f7, f11, f9, f13, f12, o40, htk, hpo.c, hg, hmo.c]; with_reducible rfl)); (case hv => rfl); skip))
            exact hW _ (hall.of (by simp [S12, dstB]))
        · rcases hh with ⟨hh, f12⟩ | ⟨rfl, c, hmo, f12⟩
          · repeat' (first
 | (intro h; first | (exfalso; exact Bool.noConfusion h) | (simp only [decide_eq_true_eq, decide_eq_false_iff_not] at h) | skip)
 | (apply evOps_fin; (case hf => (simp only [finGo, app1]; rfl)); skip)
 | refine WP_seq ?_
 | refine WP_scope ?_
 | refine WP_block ?_
 | refine WP_ret ?_
 | refine WP_skip ?_
 | refine WP_exit ?_
 | (apply WP_region; (case hl => rfl); (case hc => (simp only [put_env', put_own', put_ctr', put_none', setOwn_env', setOwn_own', setOwn_ctr', setCtr_env', setCtr_own', setCtr_ctr', entry, entryEnv, entryOwn, inAV, scAV, inOB]; rfl)); (case hc' => (conv => lhs; simp only [List.size_toArray, List.length_cons, List.length_nil, Nat.zero_add, Nat.reduceAdd, Nat.add_assoc])); skip)
 | refine evOps_nil ?_
 | (apply evOps_one; (case hg => rfl); (case h => (simp [evStep, evPure, h7, sp7, decL_enc, f8, f7, f11, f9, f13, f12, o40, htk, hpo.c, hco.c, hh]; with_reducible rfl)); skip)
 | (apply evOps_yes; (case hg => rfl); (case hb => (simp [gval, dstB, h7, sp7, decL_enc, f8, f7, f11, f9, f13, f12, o40, htk, hpo.c, hco.c, hh]; done)); (case h => (simp [evStep, evPure, h7, sp7, decL_enc, f8, f7, f11, f9, f13, f12, o40, htk, hpo.c, hco.c, hh]; with_reducible rfl)); skip)
 | (apply evOps_no; (case hg => rfl); (case hb => (simp [gval, dstB, h7, sp7, decL_enc, f8, f7, f11, f9, f13, f12, o40, htk, hpo.c, hco.c, hh]; with_reducible rfl)); (case hne => (simp; done)); (case hd => (simp [dstB]; done)); skip)
 | (apply evOps_big; (case hg => rfl); (case hd => (simp [dstB]; done)); (case hb => (simp [evBig, evStep, evPure, h7, sp7, decL_enc, f8, f7, f11, f9, f13, f12, o40, htk, hpo.c, hco.c, hh]; with_reducible rfl)); skip)
 | (apply evOps_bigYes; (case hg => rfl); (case hgv => (simp [gval, dstB, h7, sp7, decL_enc, f8, f7, f11, f9, f13, f12, o40, htk, hpo.c, hco.c, hh]; done)); (case hd => (simp [dstB]; done)); (case hb => (simp [evBig, evStep, evPure, h7, sp7, decL_enc, f8, f7, f11, f9, f13, f12, o40, htk, hpo.c, hco.c, hh]; with_reducible rfl)); skip)
 | (apply evOps_split; (case _hg => rfl); (case _ht => rfl); (case hb => (simp [dstB]; with_reducible rfl)); (case hv => ((fail_if_success (with_reducible exact (rfl : (_ : AV) = AV.d (.val (.bool true)) _))); (fail_if_success (with_reducible exact (rfl : (_ : AV) = AV.d (.val (.bool false)) _))); rfl)); skip)
 | (apply WP_cond; (case hx => (simp [St.eval, dstB, h7, sp7, decL_enc, f8, f7, f11, f9, f13, f12, o40, htk, hpo.c, hco.c, hh]; with_reducible rfl)); (case hv => rfl); skip))
            exact hW _ (hall.of (by simp [S12, dstB]))
          · repeat' (first
 | (intro h; first | (exfalso; exact Bool.noConfusion h) | (simp only [decide_eq_true_eq, decide_eq_false_iff_not] at h) | skip)
 | (apply evOps_fin; (case hf => (simp only [finGo, app1]; rfl)); skip)
 | refine WP_seq ?_
 | refine WP_scope ?_
 | refine WP_block ?_
 | refine WP_ret ?_
 | refine WP_skip ?_
 | refine WP_exit ?_
 | (apply WP_region; (case hl => rfl); (case hc => (simp only [put_env', put_own', put_ctr', put_none', setOwn_env', setOwn_own', setOwn_ctr', setCtr_env', setCtr_own', setCtr_ctr', entry, entryEnv, entryOwn, inAV, scAV, inOB]; rfl)); (case hc' => (conv => lhs; simp only [List.size_toArray, List.length_cons, List.length_nil, Nat.zero_add, Nat.reduceAdd, Nat.add_assoc])); skip)
 | refine evOps_nil ?_
 | (apply evOps_one; (case hg => rfl); (case h => (simp [evStep, evPure, h7, sp7, decL_enc, f8, f7, f11, f9, f13, f12, o40, htk, hpo.c, hco.c, hmo.c]; with_reducible rfl)); skip)
 | (apply evOps_yes; (case hg => rfl); (case hb => (simp [gval, dstB, h7, sp7, decL_enc, f8, f7, f11, f9, f13, f12, o40, htk, hpo.c, hco.c, hmo.c]; done)); (case h => (simp [evStep, evPure, h7, sp7, decL_enc, f8, f7, f11, f9, f13, f12, o40, htk, hpo.c, hco.c, hmo.c]; with_reducible rfl)); skip)
 | (apply evOps_no; (case hg => rfl); (case hb => (simp [gval, dstB, h7, sp7, decL_enc, f8, f7, f11, f9, f13, f12, o40, htk, hpo.c, hco.c, hmo.c]; with_reducible rfl)); (case hne => (simp; done)); (case hd => (simp [dstB]; done)); skip)
 | (apply evOps_big; (case hg => rfl); (case hd => (simp [dstB]; done)); (case hb => (simp [evBig, evStep, evPure, h7, sp7, decL_enc, f8, f7, f11, f9, f13, f12, o40, htk, hpo.c, hco.c, hmo.c]; with_reducible rfl)); skip)
 | (apply evOps_bigYes; (case hg => rfl); (case hgv => (simp [gval, dstB, h7, sp7, decL_enc, f8, f7, f11, f9, f13, f12, o40, htk, hpo.c, hco.c, hmo.c]; done)); (case hd => (simp [dstB]; done)); (case hb => (simp [evBig, evStep, evPure, h7, sp7, decL_enc, f8, f7, f11, f9, f13, f12, o40, htk, hpo.c, hco.c, hmo.c]; with_reducible rfl)); skip)
 | (apply evOps_split; (case _hg => rfl); (case _ht => rfl); (case hb => (simp [dstB]; with_reducible rfl)); (case hv => ((fail_if_success (with_reducible exact (rfl : (_ : AV) = AV.d (.val (.bool true)) _))); (fail_if_success (with_reducible exact (rfl : (_ : AV) = AV.d (.val (.bool false)) _))); rfl)); skip)
 | (apply WP_cond; (case hx => (simp [St.eval, dstB, h7, sp7, decL_enc, f8, f7, f11, f9, f13, f12, o40, htk, hpo.c, hco.c, hmo.c]; with_reducible rfl)); (case hv => rfl); skip))
            exact hW _ (hall.of (by simp [S12, dstB]))
    obtain ⟨⟨a0, a2, g4, a4, p4⟩, -, -, -⟩ := id hall
    repeat' (first
 | (intro h; first | (exfalso; exact Bool.noConfusion h) | (simp only [decide_eq_true_eq, decide_eq_false_iff_not] at h) | skip)
 | (apply evOps_fin; (case hf => (simp only [finGo, app1]; rfl)); skip)
 | refine WP_seq ?_
 | refine WP_scope ?_
 | refine WP_block ?_
 | refine WP_ret ?_
 | refine WP_skip ?_
 | refine WP_exit ?_
 | (apply WP_region; (case hl => rfl); (case hc => (simp only [put_env', put_own', put_ctr', put_none', setOwn_env', setOwn_own', setOwn_ctr', setCtr_env', setCtr_own', setCtr_ctr', entry, entryEnv, entryOwn, inAV, scAV, inOB]; rfl)); (case hc' => (conv => lhs; simp only [List.size_toArray, List.length_cons, List.length_nil, Nat.zero_add, Nat.reduceAdd, Nat.add_assoc])); skip)
 | refine evOps_nil ?_
 | (apply evOps_one; (case hg => rfl); (case h => (simp [evStep, evPure, a0]; with_reducible rfl)); skip)
 | (apply evOps_yes; (case hg => rfl); (case hb => (simp [gval, dstB, a0]; done)); (case h => (simp [evStep, evPure, a0]; with_reducible rfl)); skip)
 | (apply evOps_no; (case hg => rfl); (case hb => (simp [gval, dstB, a0]; with_reducible rfl)); (case hne => (simp; done)); (case hd => (simp [dstB]; done)); skip)
 | (apply evOps_big; (case hg => rfl); (case hd => (simp [dstB]; done)); (case hb => (simp [evBig, evStep, evPure, a0]; with_reducible rfl)); skip)
 | (apply evOps_bigYes; (case hg => rfl); (case hgv => (simp [gval, dstB, a0]; done)); (case hd => (simp [dstB]; done)); (case hb => (simp [evBig, evStep, evPure, a0]; with_reducible rfl)); skip)
 | (apply evOps_split; (case _hg => rfl); (case _ht => rfl); (case hb => (simp [dstB]; with_reducible rfl)); (case hv => ((fail_if_success (with_reducible exact (rfl : (_ : AV) = AV.d (.val (.bool true)) _))); (fail_if_success (with_reducible exact (rfl : (_ : AV) = AV.d (.val (.bool false)) _))); rfl)); skip)
 | (apply WP_cond; (case hx => (simp [St.eval, dstB, a0]; with_reducible rfl)); (case hv => rfl); skip))
    refine WP_loop (fun m σ1 => ∃ (i : Nat), i ≤ 258 ∧ m = 258 - i ∧ All3 n l e q σ1 ∧ σ1.env 14 = .d (vi ((i : Int) - 1)) true) 258 (gc [0, 2, 4, 7, 8, 9, 11, 12, 13, 14] [4, 40] _) (gc_forget _ _ _) ?_ ?_
    · exact ⟨0, by decide, rfl, hall.of (by simp [S12, gc, restrictEnv, restrictOwn, dstB]), by simp [gc, restrictEnv, dstB]⟩
    · rintro m σ1 ⟨i, hi, rfl, hall, a14⟩
      clear a0 a2 a4 p4
      obtain ⟨k, hk⟩ : ∃ k : Int, (i : Int) - 1 = k := ⟨_, rfl⟩
      rw [hk] at a14
      by_cases hlt : i < 258
      · have hk1 : k ≤ 256 := by omega
        have hk2 : -1 ≤ k := by omega
        have hk3 : k ≤ 1000 := by omega
        refine WP_cut (fun σ => All3 n l e q σ ∧ σ.env 14 = .d (vi k) true) (fun W hW => ?_) fun σ2 ⟨hall, a14⟩ => ?_
        · repeat' (first
 | (intro h; first | (exfalso; exact Bool.noConfusion h) | (simp only [decide_eq_true_eq, decide_eq_false_iff_not] at h) | skip)
 | (apply evOps_fin; (case hf => (simp only [finGo, app1]; rfl)); skip)
 | refine WP_seq ?_
 | refine WP_scope ?_
 | refine WP_block ?_
 | refine WP_ret ?_
 | refine WP_skip ?_
 | refine WP_exit ?_
 | (apply WP_region; (case hl => rfl); (case hc => (simp only [put_env', put_own', put_ctr', put_none', setOwn_env', setOwn_own', setOwn_ctr', setCtr_env', setCtr_own', setCtr_ctr', entry, entryEnv, entryOwn, inAV, scAV, inOB]; rfl)); (case hc' => (conv => lhs; simp only [List.size_toArray, List.length_cons, List.length_nil, Nat.zero_add, Nat.reduceAdd, Nat.add_assoc])); skip)
 | refine evOps_nil ?_
 | (apply evOps_one; (case hg => rfl); (case h => (simp [evStep, evPure, a14, hk1]; with_reducible rfl)); skip)
 | (apply evOps_yes; (case hg => rfl); (case hb => (simp [gval, dstB, a14, hk1]; done)); (case h => (simp [evStep, evPure, a14, hk1]; with_reducible rfl)); skip)
 | (apply evOps_no; (case hg => rfl); (case hb => (simp [gval, dstB, a14, hk1]; with_reducible rfl)); (case hne => (simp; done)); (case hd => (simp [dstB]; done)); skip)
 | (apply evOps_big; (case hg => rfl); (case hd => (simp [dstB]; done)); (case hb => (simp [evBig, evStep, evPure, a14, hk1]; with_reducible rfl)); skip)
 | (apply evOps_bigYes; (case hg => rfl); (case hgv => (simp [gval, dstB, a14, hk1]; done)); (case hd => (simp [dstB]; done)); (case hb => (simp [evBig, evStep, evPure, a14, hk1]; with_reducible rfl)); skip)
 | (apply evOps_split; (case _hg => rfl); (case _ht => rfl); (case hb => (simp [dstB]; with_reducible rfl)); (case hv => ((fail_if_success (with_reducible exact (rfl : (_ : AV) = AV.d (.val (.bool true)) _))); (fail_if_success (with_reducible exact (rfl : (_ : AV) = AV.d (.val (.bool false)) _))); rfl)); skip)
 | (apply WP_cond; (case hx => (simp [St.eval, dstB, a14, hk1]; with_reducible rfl)); (case hv => rfl); skip))
          exact hW _ ⟨hall.of (by simp [S12, dstB]), by simp [dstB, a14]⟩
        refine WP_cut (fun σ => All3 n l e q σ ∧ σ.env 14 = .d (vi k) true) (fun W hW => ?_) fun σ2 ⟨hall, a14⟩ => ?_
        · refine WP_block ?_
          refine WP_cut (fun σ => All3 n l e q σ ∧ σ.env 14 = .d (vi k) true ∧ σ.env 15 = .d (vi (told (lookO l k)).1) true ∧ σ.env 16 = .d (vb (told (lookO l k)).2.1) true ∧ σ.env 17 = .d (vb (told (lookO l k)).2.2) true) (fun W hW => ?_) fun σ3 ⟨hall, a14, a15, a16, a17⟩ => ?_
          · obtain ⟨⟨a0, a2, g4, a4, p4⟩, -, -, -⟩ := id hall
            have hfl := find_told hc k hk3
            repeat' (first
 | (intro h; first | (exfalso; exact Bool.noConfusion h) | (simp only [decide_eq_true_eq, decide_eq_false_iff_not] at h) | skip)
 | (apply evOps_fin; (case hf => (simp only [finGo, app1]; rfl)); skip)
 | refine WP_seq ?_
 | refine WP_scope ?_
 | refine WP_block ?_
 | refine WP_ret ?_
 | refine WP_skip ?_
 | refine WP_exit ?_
 | (apply WP_region; (case hl => rfl); (case hc => (simp only [put_env', put_own', put_ctr', put_none', setOwn_env', setOwn_own', setOwn_ctr', setCtr_env', setCtr_own', setCtr_ctr', entry, entryEnv, entryOwn, inAV, scAV, inOB]; rfl)); (case hc' => (conv => lhs; simp only [List.size_toArray, List.length_cons, List.length_nil, Nat.zero_add, Nat.reduceAdd, Nat.add_assoc])); skip)
 | refine evOps_nil ?_
 | (apply evOps_one; (case hg => rfl); (case h => (simp [evStep, evPure, a0, a14, h12, sp12, decL_enc, hfl, List.filter_cons]; with_reducible rfl)); skip)
 | (apply evOps_yes; (case hg => rfl); (case hb => (simp [gval, dstB, a0, a14, h12, sp12, decL_enc, hfl, List.filter_cons]; done)); (case h => (simp [evStep, evPure, a0, a14, h12, sp12, decL_enc, hfl, List.filter_cons]; with_reducible rfl)); skip)
 | (apply evOps_no; (case hg => rfl); (case hb => (simp [gval, dstB, a0, a14, h12, sp12, decL_enc, hfl, List.filter_cons]; with_reducible rfl)); (case hne => (simp; done)); (case hd => (simp [dstB]; done)); skip)
 | (apply evOps_big; (case hg => rfl); (case hd => (simp [dstB]; done)); (case hb => (simp [evBig, evStep, evPure, a0, a14, h12, sp12, decL_enc, hfl, List.filter_cons]; with_reducible rfl)); skip)
 | (apply evOps_bigYes; (case hg => rfl); (case hgv => (simp [gval, dstB, a0, a14, h12, sp12, decL_enc, hfl, List.filter_cons]; done)); (case hd => (simp [dstB]; done)); (case hb => (simp [evBig, evStep, evPure, a0, a14, h12, sp12, decL_enc, hfl, List.filter_cons]; with_reducible rfl)); skip)
 | (apply evOps_split; (case _hg => rfl); (case _ht => rfl); (case hb => (simp [dstB]; with_reducible rfl)); (case hv => ((fail_if_success (with_reducible exact (rfl : (_ : AV) = AV.d (.val (.bool true)) _))); (fail_if_success (with_reducible exact (rfl : (_ : AV) = AV.d (.val (.bool false)) _))); rfl)); skip)
 | (apply WP_cond; (case hx => (simp [St.eval, dstB, a0, a14, h12, sp12, decL_enc, hfl, List.filter_cons]; with_reducible rfl)); (case hv => rfl); skip))
            exact hW _ ⟨hall.of (by simp [S12, dstB]), by simp [dstB, a14], by simp [dstB], by simp [dstB], by simp [dstB]⟩
          refine WP_cut (fun σ => All3 n l e q σ ∧ σ.env 14 = .d (vi k) true ∧ σ.env 15 = .d (vi (told (lookO l k)).1) true ∧ σ.env 16 = .d (vb (told (lookO l k)).2.1) true ∧ σ.env 17 = .d (vb (told (lookO l k)).2.2) true ∧ σ.env 18 = .d (vb (decide (e.at' ≤ k ∧ k < q))) true) (fun W hW => ?_) fun σ4 ⟨hall, a14, a15, a16, a17, a18⟩ => ?_
          · obtain ⟨⟨a0, a2, g4, a4, p4⟩, -, -, -⟩ := id hall
            by_cases h1 : e.at' ≤ k
            · by_cases h2 : k < q
              · repeat' (first
 | (intro h; first | (exfalso; exact Bool.noConfusion h) | (simp only [decide_eq_true_eq, decide_eq_false_iff_not] at h) | skip)
 | (apply evOps_fin; (case hf => (simp only [finGo, app1]; rfl)); skip)
 | refine WP_seq ?_
 | refine WP_scope ?_
 | refine WP_block ?_
 | refine WP_ret ?_
 | refine WP_skip ?_
 | refine WP_exit ?_
 | (apply WP_region; (case hl => rfl); (case hc => (simp only [put_env', put_own', put_ctr', put_none', setOwn_env', setOwn_own', setOwn_ctr', setCtr_env', setCtr_own', setCtr_ctr', entry, entryEnv, entryOwn, inAV, scAV, inOB]; rfl)); (case hc' => (conv => lhs; simp only [List.size_toArray, List.length_cons, List.length_nil, Nat.zero_add, Nat.reduceAdd, Nat.add_assoc])); skip)
 | refine evOps_nil ?_
 | (apply evOps_one; (case hg => rfl); (case h => (simp [evStep, evPure, a2, a4, p4, a14, h1, h2]; with_reducible rfl)); skip)
 | (apply evOps_yes; (case hg => rfl); (case hb => (simp [gval, dstB, a2, a4, p4, a14, h1, h2]; done)); (case h => (simp [evStep, evPure, a2, a4, p4, a14, h1, h2]; with_reducible rfl)); skip)
 | (apply evOps_no; (case hg => rfl); (case hb => (simp [gval, dstB, a2, a4, p4, a14, h1, h2]; with_reducible rfl)); (case hne => (simp; done)); (case hd => (simp [dstB]; done)); skip)
 | (apply evOps_big; (case hg => rfl); (case hd => (simp [dstB]; done)); (case hb => (simp [evBig, evStep, evPure, a2, a4, p4, a14, h1, h2]; with_reducible rfl)); skip)
 | (apply evOps_bigYes; (case hg => rfl); (case hgv => (simp [gval, dstB, a2, a4, p4, a14, h1, h2]; done)); (case hd => (simp [dstB]; done)); (case hb => (simp [evBig, evStep, evPure, a2, a4, p4, a14, h1, h2]; with_reducible rfl)); skip)
 | (apply evOps_split; (case _hg => rfl); (case _ht => rfl); (case hb => (simp [dstB]; with_reducible rfl)); (case hv => ((fail_if_success (with_reducible exact (rfl : (_ : AV) = AV.d (.val (.bool true)) _))); (fail_if_success (with_reducible exact (rfl : (_ : AV) = AV.d (.val (.bool false)) _))); rfl)); skip)
 | (apply WP_cond; (case hx => (simp [St.eval, dstB, a2, a4, p4, a14, h1, h2]; with_reducible rfl)); (case hv => rfl); skip))
                exact hW _ ⟨hall.of (by simp [S12, dstB]), by simp [dstB, a14], by simp [dstB, a15], by simp [dstB, a16], by simp [dstB, a17], by simp [dstB, h1, h2]⟩
              · repeat' (first
 | (intro h; first | (exfalso; exact Bool.noConfusion h) | (simp only [decide_eq_true_eq, decide_eq_false_iff_not] at h) | skip)
 | (apply evOps_fin; (case hf => (simp only [finGo, app1]; rfl)); skip)
 | refine WP_seq ?_
 | refine WP_scope ?_
 | refine WP_block ?_
 | refine WP_ret ?_
 | refine WP_skip ?_
 | refine WP_exit ?_
 | (apply WP_region; (case hl => rfl); (case hc => (simp only [put_env', put_own', put_ctr', put_none', setOwn_env', setOwn_own', setOwn_ctr', setCtr_env', setCtr_own', setCtr_ctr', entry, entryEnv, entryOwn, inAV, scAV, inOB]; rfl)); (case hc' => (conv => lhs; simp only [List.size_toArray, List.length_cons, List.length_nil, Nat.zero_add, Nat.reduceAdd, Nat.add_assoc])); skip)
 | refine evOps_nil ?_
 | (apply evOps_one; (case hg => rfl); (case h => (simp [evStep, evPure, a2, a4, p4, a14, h1, h2]; with_reducible rfl)); skip)
 | (apply evOps_yes; (case hg => rfl); (case hb => (simp [gval, dstB, a2, a4, p4, a14, h1, h2]; done)); (case h => (simp [evStep, evPure, a2, a4, p4, a14, h1, h2]; with_reducible rfl)); skip)
 | (apply evOps_no; (case hg => rfl); (case hb => (simp [gval, dstB, a2, a4, p4, a14, h1, h2]; with_reducible rfl)); (case hne => (simp; done)); (case hd => (simp [dstB]; done)); skip)
 | (apply evOps_big; (case hg => rfl); (case hd => (simp [dstB]; done)); (case hb => (simp [evBig, evStep, evPure, a2, a4, p4, a14, h1, h2]; with_reducible rfl)); skip)
 | (apply evOps_bigYes; (case hg => rfl); (case hgv => (simp [gval, dstB, a2, a4, p4, a14, h1, h2]; done)); (case hd => (simp [dstB]; done)); (case hb => (simp [evBig, evStep, evPure, a2, a4, p4, a14, h1, h2]; with_reducible rfl)); skip)
 | (apply evOps_split; (case _hg => rfl); (case _ht => rfl); (case hb => (simp [dstB]; with_reducible rfl)); (case hv => ((fail_if_success (with_reducible exact (rfl : (_ : AV) = AV.d (.val (.bool true)) _))); (fail_if_success (with_reducible exact (rfl : (_ : AV) = AV.d (.val (.bool false)) _))); rfl)); skip)
 | (apply WP_cond; (case hx => (simp [St.eval, dstB, a2, a4, p4, a14, h1, h2]; with_reducible rfl)); (case hv => rfl); skip))
                exact hW _ ⟨hall.of (by simp [S12, dstB]), by simp [dstB, a14], by simp [dstB, a15], by simp [dstB, a16], by simp [dstB, a17], by simp [dstB, h1, h2]⟩
            · repeat' (first
 | (intro h; first | (exfalso; exact Bool.noConfusion h) | (simp only [decide_eq_true_eq, decide_eq_false_iff_not] at h) | skip)
 | (apply evOps_fin; (case hf => (simp only [finGo, app1]; rfl)); skip)
 | refine WP_seq ?_
 | refine WP_scope ?_
 | refine WP_block ?_
 | refine WP_ret ?_
 | refine WP_skip ?_
 | refine WP_exit ?_
 | (apply WP_region; (case hl => rfl); (case hc => (simp only [put_env', put_own', put_ctr', put_none', setOwn_env', setOwn_own', setOwn_ctr', setCtr_env', setCtr_own', setCtr_ctr', entry, entryEnv, entryOwn, inAV, scAV, inOB]; rfl)); (case hc' => (conv => lhs; simp only [List.size_toArray, List.length_cons, List.length_nil, Nat.zero_add, Nat.reduceAdd, Nat.add_assoc])); skip)
 | refine evOps_nil ?_
 | (apply evOps_one; (case hg => rfl); (case h => (simp [evStep, evPure, a2, a4, p4, a14, h1]; with_reducible rfl)); skip)
 | (apply evOps_yes; (case hg => rfl); (case hb => (simp [gval, dstB, a2, a4, p4, a14, h1]; done)); (case h => (simp [evStep, evPure, a2, a4, p4, a14, h1]; with_reducible rfl)); skip)
 | (apply evOps_no; (case hg => rfl); (case hb => (simp [gval, dstB, a2, a4, p4, a14, h1]; with_reducible rfl)); (case hne => (simp; done)); (case hd => (simp [dstB]; done)); skip)
 | (apply evOps_big; (case hg => rfl); (case hd => (simp [dstB]; done)); (case hb => (simp [evBig, evStep, evPure, a2, a4, p4, a14, h1]; with_reducible rfl)); skip)
 | (apply evOps_bigYes; (case hg => rfl); (case hgv => (simp [gval, dstB, a2, a4, p4, a14, h1]; done)); (case hd => (simp [dstB]; done)); (case hb => (simp [evBig, evStep, evPure, a2, a4, p4, a14, h1]; with_reducible rfl)); skip)
 | (apply evOps_split; (case _hg => rfl); (case _ht => rfl); (case hb => (simp [dstB]; with_reducible rfl)); (case hv => ((fail_if_success (with_reducible exact (rfl : (_ : AV) = AV.d (.val (.bool true)) _))); (fail_if_success (with_reducible exact (rfl : (_ : AV) = AV.d (.val (.bool false)) _))); rfl)); skip)
 | (apply WP_cond; (case hx => (simp [St.eval, dstB, a2, a4, p4, a14, h1]; with_reducible rfl)); (case hv => rfl); skip))
              exact hW _ ⟨hall.of (by simp [S12, dstB]), by simp [dstB, a14], by simp [dstB, a15], by simp [dstB, a16], by simp [dstB, a17], by simp [dstB, h1]⟩
          refine WP_cut (fun σ => All3 n l e q σ ∧ σ.env 14 = .d (vi k) true ∧ σ.env 15 = .d (vi (told (lookO l k)).1) true ∧ σ.env 16 = .d (vb (told (lookO l k)).2.1) true ∧ σ.env 17 = .d (vb (told (lookO l k)).2.2) true ∧ σ.env 18 = .d (vb (decide (e.at' ≤ k ∧ k < q))) true) (fun W hW => ?_) fun σ5 ⟨hall, a14, a15, a16, a17, a18⟩ => ?_
          · obtain ⟨⟨a0, a2, g4, a4, p4⟩, ⟨f, f8, hf⟩, -, -⟩ := id hall
            rcases hf with ⟨hf, f7⟩ | ⟨rfl, a, ga, hpo, f7, o40⟩
            · repeat' (first
 | (intro h; first | (exfalso; exact Bool.noConfusion h) | (simp only [decide_eq_true_eq, decide_eq_false_iff_not] at h) | skip)
 | (apply evOps_fin; (case hf => (simp only [finGo, app1]; rfl)); skip)
 | refine WP_seq ?_
 | refine WP_scope ?_
 | refine WP_block ?_
 | refine WP_ret ?_
 | refine WP_skip ?_
 | refine WP_exit ?_
 | (apply WP_region; (case hl => rfl); (case hc => (simp only [put_env', put_own', put_ctr', put_none', setOwn_env', setOwn_own', setOwn_ctr', setCtr_env', setCtr_own', setCtr_ctr', entry, entryEnv, entryOwn, inAV, scAV, inOB]; rfl)); (case hc' => (conv => lhs; simp only [List.size_toArray, List.length_cons, List.length_nil, Nat.zero_add, Nat.reduceAdd, Nat.add_assoc])); skip)
 | refine evOps_nil ?_
 | (apply evOps_one; (case hg => rfl); (case h => (simp [evStep, evPure, f8, hf]; with_reducible rfl)); skip)
 | (apply evOps_yes; (case hg => rfl); (case hb => (simp [gval, dstB, f8, hf]; done)); (case h => (simp [evStep, evPure, f8, hf]; with_reducible rfl)); skip)
 | (apply evOps_no; (case hg => rfl); (case hb => (simp [gval, dstB, f8, hf]; with_reducible rfl)); (case hne => (simp; done)); (case hd => (simp [dstB]; done)); skip)
 | (apply evOps_big; (case hg => rfl); (case hd => (simp [dstB]; done)); (case hb => (simp [evBig, evStep, evPure, f8, hf]; with_reducible rfl)); skip)
 | (apply evOps_bigYes; (case hg => rfl); (case hgv => (simp [gval, dstB, f8, hf]; done)); (case hd => (simp [dstB]; done)); (case hb => (simp [evBig, evStep, evPure, f8, hf]; with_reducible rfl)); skip)
 | (apply evOps_split; (case _hg => rfl); (case _ht => rfl); (case hb => (simp [dstB]; with_reducible rfl)); (case hv => ((fail_if_success (with_reducible exact (rfl : (_ : AV) = AV.d (.val (.bool true)) _))); (fail_if_success (with_reducible exact (rfl : (_ : AV) = AV.d (.val (.bool false)) _))); rfl)); skip)
 | (apply WP_cond; (case hx => (simp [St.eval, dstB, f8, hf]; with_reducible rfl)); (case hv => rfl); skip))
              exact hW _ ⟨hall.of (by simp [S12, dstB]), by simp [dstB, a14], by simp [dstB, a15], by simp [dstB, a16], by simp [dstB, a17], by simp [dstB, a18]⟩
            · have htk : List.take a.length (a.map Xt.enc) = a.map Xt.enc := List.take_of_length_le (by simp)
              have hfa := hpo.f k hk3
              obtain ⟨m1, m2, m3, m4, m5⟩ := hpo.m
              have hwe : IntKind.i64.wrap (e.at' + e.len) = e.at' + e.len := w64_in (by omega) (by omega)
              have hw1 : IntKind.i64.wrap (e.start + k) = e.start + k := w64_in (by omega) (by omega)
              have hw2 : IntKind.i64.wrap (e.start + k - e.at') = e.start + k - e.at' := w64_in (by omega) (by omega)
              by_cases hown : e.at' ≤ k ∧ k < e.at' + e.len
              · obtain ⟨c1, c2⟩ := hown
                have h1 : look1 e k = some (e.start + k - e.at', e.un) := if_pos ⟨c1, c2⟩
                have h2 := hpo.n k (by rw [h1]; simp)
                rw [h1] at hfa
                have hfa2 : findX a k = (e.start + k - e.at', !e.un, true) := hfa
                rw [h2] at a15 a16 a17 hW
                have b15 : σ4.env 15 = .d (vi 0) true := a15
                have b16 : σ4.env 16 = .d (vb false) true := a16
                have b17 : σ4.env 17 = .d (vb false) true := a17
                cases hu : e.un
                · rw [hu] at hfa2 p4
                  repeat' (first
 | (intro h; first | (exfalso; exact Bool.noConfusion h) | (simp only [decide_eq_true_eq, decide_eq_false_iff_not] at h) | skip)
 | (apply evOps_fin; (case hf => (simp only [finGo, app1]; rfl)); skip)
 | refine WP_seq ?_
 | refine WP_scope ?_
 | refine WP_block ?_
 | refine WP_ret ?_
 | refine WP_skip ?_
 | refine WP_exit ?_
 | (apply WP_region; (case hl => rfl); (case hc => (simp only [put_env', put_own', put_ctr', put_none', setOwn_env', setOwn_own', setOwn_ctr', setCtr_env', setCtr_own', setCtr_ctr', entry, entryEnv, entryOwn, inAV, scAV, inOB]; rfl)); (case hc' => (conv => lhs; simp only [List.size_toArray, List.length_cons, List.length_nil, Nat.zero_add, Nat.reduceAdd, Nat.add_assoc])); skip)
 | refine evOps_nil ?_
 | (apply evOps_one; (case hg => rfl); (case h => (simp [evStep, evPure, f8, f7, o40, htk, a4, p4, a14, h12, sp12, decL_enc, hfa2, c1, c2, hwe, hw1, hw2, b15, b16, b17, hu, List.filter_cons]; with_reducible rfl)); skip)
 | (apply evOps_yes; (case hg => rfl); (case hb => (simp [gval, dstB, f8, f7, o40, htk, a4, p4, a14, h12, sp12, decL_enc, hfa2, c1, c2, hwe, hw1, hw2, b15, b16, b17, hu, List.filter_cons]; done)); (case h => (simp [evStep, evPure, f8, f7, o40, htk, a4, p4, a14, h12, sp12, decL_enc, hfa2, c1, c2, hwe, hw1, hw2, b15, b16, b17, hu, List.filter_cons]; with_reducible rfl)); skip)
 | (apply evOps_no; (case hg => rfl); (case hb => (simp [gval, dstB, f8, f7, o40, htk, a4, p4, a14, h12, sp12, decL_enc, hfa2, c1, c2, hwe, hw1, hw2, b15, b16, b17, hu, List.filter_cons]; with_reducible rfl)); (case hne => (simp; done)); (case hd => (simp [dstB]; done)); skip)
 | (apply evOps_big; (case hg => rfl); (case hd => (simp [dstB]; done)); (case hb => (simp [evBig, evStep, evPure, f8, f7, o40, htk, a4, p4, a14, h12, sp12, decL_enc, hfa2, c1, c2, hwe, hw1, hw2, b15, b16, b17, hu, List.filter_cons]; with_reducible rfl)); skip)
 | (apply evOps_bigYes; (case hg => rfl); (case hgv => (simp [gval, dstB, f8, f7, o40, htk, a4, p4, a14, h12, sp12, decL_enc, hfa2, c1, c2, hwe, hw1, hw2, b15, b16, b17, hu, List.filter_cons]; done)); (case hd => (simp [dstB]; done)); (case hb => (simp [evBig, evStep, evPure, f8, f7, o40, htk, a4, p4, a14, h12, sp12, decL_enc, hfa2, c1, c2, hwe, hw1, hw2, b15, b16, b17, hu, List.filter_cons]; with_reducible rfl)); skip)
 | (apply evOps_split; (case _hg => rfl); (case _ht => rfl); (case hb => (simp [dstB]; with_reducible rfl)); (case hv => ((fail_if_success (with_reducible exact (rfl : (_ : AV) = AV.d (.val (.bool true)) _))); (fail_if_success (with_reducible exact (rfl : (_ : AV) = AV.d (.val (.bool false)) _))); rfl)); skip)
 | (apply WP_cond; (case hx => (simp [St.eval, dstB, f8, f7, o40, htk, a4, p4, a14, h12, sp12, decL_enc, hfa2, c1, c2, hwe, hw1, hw2, b15, b16, b17, hu, List.filter_cons]; with_reducible rfl)); (case hv => rfl); skip))
                  exact hW _ ⟨hall.of (by simp [S12, dstB]), by simp [dstB, a14], by simp [dstB, a15], by simp [dstB, a16], by simp [dstB, a17], by simp [dstB, a18]⟩
                · rw [hu] at hfa2 p4
                  repeat' (first
 | (intro h; first | (exfalso; exact Bool.noConfusion h) | (simp only [decide_eq_true_eq, decide_eq_false_iff_not] at h) | skip)
 | (apply evOps_fin; (case hf => (simp only [finGo, app1]; rfl)); skip)
 | refine WP_seq ?_
 | refine WP_scope ?_
 | refine WP_block ?_
 | refine WP_ret ?_
 | refine WP_skip ?_
 | refine WP_exit ?_
 | (apply WP_region; (case hl => rfl); (case hc => (simp only [put_env', put_own', put_ctr', put_none', setOwn_env', setOwn_own', setOwn_ctr', setCtr_env', setCtr_own', setCtr_ctr', entry, entryEnv, entryOwn, inAV, scAV, inOB]; rfl)); (case hc' => (conv => lhs; simp only [List.size_toArray, List.length_cons, List.length_nil, Nat.zero_add, Nat.reduceAdd, Nat.add_assoc])); skip)
 | refine evOps_nil ?_
 | (apply evOps_one; (case hg => rfl); (case h => (simp [evStep, evPure, f8, f7, o40, htk, a4, p4, a14, h12, sp12, decL_enc, hfa2, c1, c2, hwe, hw1, hw2, b15, b16, b17, hu, List.filter_cons]; with_reducible rfl)); skip)
 | (apply evOps_yes; (case hg => rfl); (case hb => (simp [gval, dstB, f8, f7, o40, htk, a4, p4, a14, h12, sp12, decL_enc, hfa2, c1, c2, hwe, hw1, hw2, b15, b16, b17, hu, List.filter_cons]; done)); (case h => (simp [evStep, evPure, f8, f7, o40, htk, a4, p4, a14, h12, sp12, decL_enc, hfa2, c1, c2, hwe, hw1, hw2, b15, b16, b17, hu, List.filter_cons]; with_reducible rfl)); skip)
 | (apply evOps_no; (case hg => rfl); (case hb => (simp [gval, dstB, f8, f7, o40, htk, a4, p4, a14, h12, sp12, decL_enc, hfa2, c1, c2, hwe, hw1, hw2, b15, b16, b17, hu, List.filter_cons]; with_reducible rfl)); (case hne => (simp; done)); (case hd => (simp [dstB]; done)); skip)
 | (apply evOps_big; (case hg => rfl); (case hd => (simp [dstB]; done)); (case hb => (simp [evBig, evStep, evPure, f8, f7, o40, htk, a4, p4, a14, h12, sp12, decL_enc, hfa2, c1, c2, hwe, hw1, hw2, b15, b16, b17, hu, List.filter_cons]; with_reducible rfl)); skip)
 | (apply evOps_bigYes; (case hg => rfl); (case hgv => (simp [gval, dstB, f8, f7, o40, htk, a4, p4, a14, h12, sp12, decL_enc, hfa2, c1, c2, hwe, hw1, hw2, b15, b16, b17, hu, List.filter_cons]; done)); (case hd => (simp [dstB]; done)); (case hb => (simp [evBig, evStep, evPure, f8, f7, o40, htk, a4, p4, a14, h12, sp12, decL_enc, hfa2, c1, c2, hwe, hw1, hw2, b15, b16, b17, hu, List.filter_cons]; with_reducible rfl)); skip)
 | (apply evOps_split; (case _hg => rfl); (case _ht => rfl); (case hb => (simp [dstB]; with_reducible rfl)); (case hv => ((fail_if_success (with_reducible exact (rfl : (_ : AV) = AV.d (.val (.bool true)) _))); (fail_if_success (with_reducible exact (rfl : (_ : AV) = AV.d (.val (.bool false)) _))); rfl)); skip)
 | (apply WP_cond; (case hx => (simp [St.eval, dstB, f8, f7, o40, htk, a4, p4, a14, h12, sp12, decL_enc, hfa2, c1, c2, hwe, hw1, hw2, b15, b16, b17, hu, List.filter_cons]; with_reducible rfl)); (case hv => rfl); skip))
                  exact hW _ ⟨hall.of (by simp [S12, dstB]), by simp [dstB, a14], by simp [dstB, a15], by simp [dstB, a16], by simp [dstB, a17], by simp [dstB, a18]⟩
              · have h1 : look1 e k = none := if_neg hown
                rw [h1] at hfa
                have hfa2 : findX a k = told (lookO l k) := hfa
                obtain ⟨tt, ht⟩ : ∃ tt, told (lookO l k) = tt := ⟨_, rfl⟩
                rw [ht] at hfa2 a15 a16 a17 hW
                by_cases c1 : e.at' ≤ k
                · have c2 : ¬ k < e.at' + e.len := fun h => hown ⟨c1, h⟩
                  repeat' (first
 | (intro h; first | (exfalso; exact Bool.noConfusion h) | (simp only [decide_eq_true_eq, decide_eq_false_iff_not] at h) | skip)
 | (apply evOps_fin; (case hf => (simp only [finGo, app1]; rfl)); skip)
 | refine WP_seq ?_
 | refine WP_scope ?_
 | refine WP_block ?_
 | refine WP_ret ?_
 | refine WP_skip ?_
 | refine WP_exit ?_
 | (apply WP_region; (case hl => rfl); (case hc => (simp only [put_env', put_own', put_ctr', put_none', setOwn_env', setOwn_own', setOwn_ctr', setCtr_env', setCtr_own', setCtr_ctr', entry, entryEnv, entryOwn, inAV, scAV, inOB]; rfl)); (case hc' => (conv => lhs; simp only [List.size_toArray, List.length_cons, List.length_nil, Nat.zero_add, Nat.reduceAdd, Nat.add_assoc])); skip)
 | refine evOps_nil ?_
 | (apply evOps_one; (case hg => rfl); (case h => (simp [evStep, evPure, f8, f7, o40, htk, a4, p4, a14, h12, sp12, decL_enc, hfa2, c1, c2, hwe, a15, a16, a17, List.filter_cons]; with_reducible rfl)); skip)
 | (apply evOps_yes; (case hg => rfl); (case hb => (simp [gval, dstB, f8, f7, o40, htk, a4, p4, a14, h12, sp12, decL_enc, hfa2, c1, c2, hwe, a15, a16, a17, List.filter_cons]; done)); (case h => (simp [evStep, evPure, f8, f7, o40, htk, a4, p4, a14, h12, sp12, decL_enc, hfa2, c1, c2, hwe, a15, a16, a17, List.filter_cons]; with_reducible rfl)); skip)
 | (apply evOps_no; (case hg => rfl); (case hb => (simp [gval, dstB, f8, f7, o40, htk, a4, p4, a14, h12, sp12, decL_enc, hfa2, c1, c2, hwe, a15, a16, a17, List.filter_cons]; with_reducible rfl)); (case hne => (simp; done)); (case hd => (simp [dstB]; done)); skip)
 | (apply evOps_big; (case hg => rfl); (case hd => (simp [dstB]; done)); (case hb => (simp [evBig, evStep, evPure, f8, f7, o40, htk, a4, p4, a14, h12, sp12, decL_enc, hfa2, c1, c2, hwe, a15, a16, a17, List.filter_cons]; with_reducible rfl)); skip)
 | (apply evOps_bigYes; (case hg => rfl); (case hgv => (simp [gval, dstB, f8, f7, o40, htk, a4, p4, a14, h12, sp12, decL_enc, hfa2, c1, c2, hwe, a15, a16, a17, List.filter_cons]; done)); (case hd => (simp [dstB]; done)); (case hb => (simp [evBig, evStep, evPure, f8, f7, o40, htk, a4, p4, a14, h12, sp12, decL_enc, hfa2, c1, c2, hwe, a15, a16, a17, List.filter_cons]; with_reducible rfl)); skip)
 | (apply evOps_split; (case _hg => rfl); (case _ht => rfl); (case hb => (simp [dstB]; with_reducible rfl)); (case hv => ((fail_if_success (with_reducible exact (rfl : (_ : AV) = AV.d (.val (.bool true)) _))); (fail_if_success (with_reducible exact (rfl : (_ : AV) = AV.d (.val (.bool false)) _))); rfl)); skip)
 | (apply WP_cond; (case hx => (simp [St.eval, dstB, f8, f7, o40, htk, a4, p4, a14, h12, sp12, decL_enc, hfa2, c1, c2, hwe, a15, a16, a17, List.filter_cons]; with_reducible rfl)); (case hv => rfl); skip))
                  exact hW _ ⟨hall.of (by simp [S12, dstB]), by simp [dstB, a14], by simp [dstB, a15], by simp [dstB, a16], by simp [dstB, a17], by simp [dstB, a18]⟩
                · repeat' (first
 | (intro h; first | (exfalso; exact Bool.noConfusion h) | (simp only [decide_eq_true_eq, decide_eq_false_iff_not] at h) | skip)
 | (apply evOps_fin; (case hf => (simp only [finGo, app1]; rfl)); skip)
 | refine WP_seq ?_
 | refine WP_scope ?_
 | refine WP_block ?_
 | refine WP_ret ?_
 | refine WP_skip ?_
 | refine WP_exit ?_
 | (apply WP_region; (case hl => rfl); (case hc => (simp only [put_env', put_own', put_ctr', put_none', setOwn_env', setOwn_own', setOwn_ctr', setCtr_env', setCtr_own', setCtr_ctr', entry, entryEnv, entryOwn, inAV, scAV, inOB]; rfl)); (case hc' => (conv => lhs; simp only [List.size_toArray, List.length_cons, List.length_nil, Nat.zero_add, Nat.reduceAdd, Nat.add_assoc])); skip)
 | refine evOps_nil ?_
 | (apply evOps_one; (case hg => rfl); (case h => (simp [evStep, evPure, f8, f7, o40, htk, a4, p4, a14, h12, sp12, decL_enc, hfa2, c1, a15, a16, a17, List.filter_cons]; with_reducible rfl)); skip)
 | (apply evOps_yes; (case hg => rfl); (case hb => (simp [gval, dstB, f8, f7, o40, htk, a4, p4, a14, h12, sp12, decL_enc, hfa2, c1, a15, a16, a17, List.filter_cons]; done)); (case h => (simp [evStep, evPure, f8, f7, o40, htk, a4, p4, a14, h12, sp12, decL_enc, hfa2, c1, a15, a16, a17, List.filter_cons]; with_reducible rfl)); skip)
 | (apply evOps_no; (case hg => rfl); (case hb => (simp [gval, dstB, f8, f7, o40, htk, a4, p4, a14, h12, sp12, decL_enc, hfa2, c1, a15, a16, a17, List.filter_cons]; with_reducible rfl)); (case hne => (simp; done)); (case hd => (simp [dstB]; done)); skip)
 | (apply evOps_big; (case hg => rfl); (case hd => (simp [dstB]; done)); (case hb => (simp [evBig, evStep, evPure, f8, f7, o40, htk, a4, p4, a14, h12, sp12, decL_enc, hfa2, c1, a15, a16, a17, List.filter_cons]; with_reducible rfl)); skip)
 | (apply evOps_bigYes; (case hg => rfl); (case hgv => (simp [gval, dstB, f8, f7, o40, htk, a4, p4, a14, h12, sp12, decL_enc, hfa2, c1, a15, a16, a17, List.filter_cons]; done)); (case hd => (simp [dstB]; done)); (case hb => (simp [evBig, evStep, evPure, f8, f7, o40, htk, a4, p4, a14, h12, sp12, decL_enc, hfa2, c1, a15, a16, a17, List.filter_cons]; with_reducible rfl)); skip)
 | (apply evOps_split; (case _hg => rfl); (case _ht => rfl); (case hb => (simp [dstB]; with_reducible rfl)); (case hv => ((fail_if_success (with_reducible exact (rfl : (_ : AV) = AV.d (.val (.bool true)) _))); (fail_if_success (with_reducible exact (rfl : (_ : AV) = AV.d (.val (.bool false)) _))); rfl)); skip)
 | (apply WP_cond; (case hx => (simp [St.eval, dstB, f8, f7, o40, htk, a4, p4, a14, h12, sp12, decL_enc, hfa2, c1, a15, a16, a17, List.filter_cons]; with_reducible rfl)); (case hv => rfl); skip))
                  exact hW _ ⟨hall.of (by simp [S12, dstB]), by simp [dstB, a14], by simp [dstB, a15], by simp [dstB, a16], by simp [dstB, a17], by simp [dstB, a18]⟩
          refine WP_cut (fun σ => All3 n l e q σ ∧ σ.env 14 = .d (vi k) true ∧ σ.env 15 = .d (vi (told (lookO l k)).1) true ∧ σ.env 16 = .d (vb (told (lookO l k)).2.1) true ∧ σ.env 17 = .d (vb (told (lookO l k)).2.2) true ∧ σ.env 18 = .d (vb (decide (e.at' ≤ k ∧ k < q))) true) (fun W hW => ?_) fun σ6 ⟨hall, a14, a15, a16, a17, a18⟩ => ?_
          · obtain ⟨⟨a0, a2, g4, a4, p4⟩, -, ⟨f, f11, hf⟩, -⟩ := id hall
            rcases hf with ⟨hf, f9⟩ | ⟨rfl, b, hpo, f9⟩
            · repeat' (first
 | (intro h; first | (exfalso; exact Bool.noConfusion h) | (simp only [decide_eq_true_eq, decide_eq_false_iff_not] at h) | skip)
 | (apply evOps_fin; (case hf => (simp only [finGo, app1]; rfl)); skip)
 | refine WP_seq ?_
 | refine WP_scope ?_
 | refine WP_block ?_
 | refine WP_ret ?_
 | refine WP_skip ?_
 | refine WP_exit ?_
 | (apply WP_region; (case hl => rfl); (case hc => (simp only [put_env', put_own', put_ctr', put_none', setOwn_env', setOwn_own', setOwn_ctr', setCtr_env', setCtr_own', setCtr_ctr', entry, entryEnv, entryOwn, inAV, scAV, inOB]; rfl)); (case hc' => (conv => lhs; simp only [List.size_toArray, List.length_cons, List.length_nil, Nat.zero_add, Nat.reduceAdd, Nat.add_assoc])); skip)
 | refine evOps_nil ?_
 | (apply evOps_one; (case hg => rfl); (case h => (simp [evStep, evPure, f11, hf]; with_reducible rfl)); skip)
 | (apply evOps_yes; (case hg => rfl); (case hb => (simp [gval, dstB, f11, hf]; done)); (case h => (simp [evStep, evPure, f11, hf]; with_reducible rfl)); skip)
 | (apply evOps_no; (case hg => rfl); (case hb => (simp [gval, dstB, f11, hf]; with_reducible rfl)); (case hne => (simp; done)); (case hd => (simp [dstB]; done)); skip)
 | (apply evOps_big; (case hg => rfl); (case hd => (simp [dstB]; done)); (case hb => (simp [evBig, evStep, evPure, f11, hf]; with_reducible rfl)); skip)
 | (apply evOps_bigYes; (case hg => rfl); (case hgv => (simp [gval, dstB, f11, hf]; done)); (case hd => (simp [dstB]; done)); (case hb => (simp [evBig, evStep, evPure, f11, hf]; with_reducible rfl)); skip)
 | (apply evOps_split; (case _hg => rfl); (case _ht => rfl); (case hb => (simp [dstB]; with_reducible rfl)); (case hv => ((fail_if_success (with_reducible exact (rfl : (_ : AV) = AV.d (.val (.bool true)) _))); (fail_if_success (with_reducible exact (rfl : (_ : AV) = AV.d (.val (.bool false)) _))); rfl)); skip)
 | (apply WP_cond; (case hx => (simp [St.eval, dstB, f11, hf]; with_reducible rfl)); (case hv => rfl); skip))
              exact hW _ ⟨hall.of (by simp [S12, dstB]), by simp [dstB, a14], by simp [dstB, a15], by simp [dstB, a16], by simp [dstB, a17], by simp [dstB, a18]⟩
            · have hfa := hpo.f k hk3
              by_cases hin : e.at' ≤ k ∧ k < q
              · rw [if_pos hin] at hfa
                have hfa2 : findX b k = (0, false, false) := hfa
                have b18 : σ5.env 18 = .d (vb true) true := by rw [a18, decide_eq_true hin]
                repeat' (first
 | (intro h; first | (exfalso; exact Bool.noConfusion h) | (simp only [decide_eq_true_eq, decide_eq_false_iff_not] at h) | skip)
 | (apply evOps_fin; (case hf => (simp only [finGo, app1]; rfl)); skip)
 | refine WP_seq ?_
 | refine WP_scope ?_
 | refine WP_block ?_
 | refine WP_ret ?_
 | refine WP_skip ?_
 | refine WP_exit ?_
 | (apply WP_region; (case hl => rfl); (case hc => (simp only [put_env', put_own', put_ctr', put_none', setOwn_env', setOwn_own', setOwn_ctr', setCtr_env', setCtr_own', setCtr_ctr', entry, entryEnv, entryOwn, inAV, scAV, inOB]; rfl)); (case hc' => (conv => lhs; simp only [List.size_toArray, List.length_cons, List.length_nil, Nat.zero_add, Nat.reduceAdd, Nat.add_assoc])); skip)
 | refine evOps_nil ?_
 | (apply evOps_one; (case hg => rfl); (case h => (simp [evStep, evPure, f11, f9, a14, h12, sp12, decL_enc, hfa2, a15, a16, a17, b18, List.filter_cons]; with_reducible rfl)); skip)
 | (apply evOps_yes; (case hg => rfl); (case hb => (simp [gval, dstB, f11, f9, a14, h12, sp12, decL_enc, hfa2, a15, a16, a17, b18, List.filter_cons]; done)); (case h => (simp [evStep, evPure, f11, f9, a14, h12, sp12, decL_enc, hfa2, a15, a16, a17, b18, List.filter_cons]; with_reducible rfl)); skip)
 | (apply evOps_no; (case hg => rfl); (case hb => (simp [gval, dstB, f11, f9, a14, h12, sp12, decL_enc, hfa2, a15, a16, a17, b18, List.filter_cons]; with_reducible rfl)); (case hne => (simp; done)); (case hd => (simp [dstB]; done)); skip)
 | (apply evOps_big; (case hg => rfl); (case hd => (simp [dstB]; done)); (case hb => (simp [evBig, evStep, evPure, f11, f9, a14, h12, sp12, decL_enc, hfa2, a15, a16, a17, b18, List.filter_cons]; with_reducible rfl)); skip)
 | (apply evOps_bigYes; (case hg => rfl); (case hgv => (simp [gval, dstB, f11, f9, a14, h12, sp12, decL_enc, hfa2, a15, a16, a17, b18, List.filter_cons]; done)); (case hd => (simp [dstB]; done)); (case hb => (simp [evBig, evStep, evPure, f11, f9, a14, h12, sp12, decL_enc, hfa2, a15, a16, a17, b18, List.filter_cons]; with_reducible rfl)); skip)
 | (apply evOps_split; (case _hg => rfl); (case _ht => rfl); (case hb => (simp [dstB]; with_reducible rfl)); (case hv => ((fail_if_success (with_reducible exact (rfl : (_ : AV) = AV.d (.val (.bool true)) _))); (fail_if_success (with_reducible exact (rfl : (_ : AV) = AV.d (.val (.bool false)) _))); rfl)); skip)
 | (apply WP_cond; (case hx => (simp [St.eval, dstB, f11, f9, a14, h12, sp12, decL_enc, hfa2, a15, a16, a17, b18, List.filter_cons]; with_reducible rfl)); (case hv => rfl); skip))
                exact hW _ ⟨hall.of (by simp [S12, dstB]), by simp [dstB, a14], by simp [dstB, a15], by simp [dstB, a16], by simp [dstB, a17], by simp [dstB, a18]⟩
              · rw [if_neg hin] at hfa
                have b18 : σ5.env 18 = .d (vb false) true := by rw [a18, decide_eq_false hin]
                obtain ⟨tt, ht⟩ : ∃ tt, told (lookO l k) = tt := ⟨_, rfl⟩
                rw [ht] at hfa a15 a16 a17 hW
                repeat' (first
 | (intro h; first | (exfalso; exact Bool.noConfusion h) | (simp only [decide_eq_true_eq, decide_eq_false_iff_not] at h) | skip)
 | (apply evOps_fin; (case hf => (simp only [finGo, app1]; rfl)); skip)
 | refine WP_seq ?_
 | refine WP_scope ?_
 | refine WP_block ?_
 | refine WP_ret ?_
 | refine WP_skip ?_
 | refine WP_exit ?_
 | (apply WP_region; (case hl => rfl); (case hc => (simp only [put_env', put_own', put_ctr', put_none', setOwn_env', setOwn_own', setOwn_ctr', setCtr_env', setCtr_own', setCtr_ctr', entry, entryEnv, entryOwn, inAV, scAV, inOB]; rfl)); (case hc' => (conv => lhs; simp only [List.size_toArray, List.length_cons, List.length_nil, Nat.zero_add, Nat.reduceAdd, Nat.add_assoc])); skip)
 | refine evOps_nil ?_
 | (apply evOps_one; (case hg => rfl); (case h => (simp [evStep, evPure, f11, f9, a14, h12, sp12, decL_enc, hfa, a15, a16, a17, b18, List.filter_cons]; with_reducible rfl)); skip)
 | (apply evOps_yes; (case hg => rfl); (case hb => (simp [gval, dstB, f11, f9, a14, h12, sp12, decL_enc, hfa, a15, a16, a17, b18, List.filter_cons]; done)); (case h => (simp [evStep, evPure, f11, f9, a14, h12, sp12, decL_enc, hfa, a15, a16, a17, b18, List.filter_cons]; with_reducible rfl)); skip)
 | (apply evOps_no; (case hg => rfl); (case hb => (simp [gval, dstB, f11, f9, a14, h12, sp12, decL_enc, hfa, a15, a16, a17, b18, List.filter_cons]; with_reducible rfl)); (case hne => (simp; done)); (case hd => (simp [dstB]; done)); skip)
 | (apply evOps_big; (case hg => rfl); (case hd => (simp [dstB]; done)); (case hb => (simp [evBig, evStep, evPure, f11, f9, a14, h12, sp12, decL_enc, hfa, a15, a16, a17, b18, List.filter_cons]; with_reducible rfl)); skip)
 | (apply evOps_bigYes; (case hg => rfl); (case hgv => (simp [gval, dstB, f11, f9, a14, h12, sp12, decL_enc, hfa, a15, a16, a17, b18, List.filter_cons]; done)); (case hd => (simp [dstB]; done)); (case hb => (simp [evBig, evStep, evPure, f11, f9, a14, h12, sp12, decL_enc, hfa, a15, a16, a17, b18, List.filter_cons]; with_reducible rfl)); skip)
 | (apply evOps_split; (case _hg => rfl); (case _ht => rfl); (case hb => (simp [dstB]; with_reducible rfl)); (case hv => ((fail_if_success (with_reducible exact (rfl : (_ : AV) = AV.d (.val (.bool true)) _))); (fail_if_success (with_reducible exact (rfl : (_ : AV) = AV.d (.val (.bool false)) _))); rfl)); skip)
 | (apply WP_cond; (case hx => (simp [St.eval, dstB, f11, f9, a14, h12, sp12, decL_enc, hfa, a15, a16, a17, b18, List.filter_cons]; with_reducible rfl)); (case hv => rfl); skip))
                exact hW _ ⟨hall.of (by simp [S12, dstB]), by simp [dstB, a14], by simp [dstB, a15], by simp [dstB, a16], by simp [dstB, a17], by simp [dstB, a18]⟩
          · obtain ⟨⟨a0, a2, g4, a4, p4⟩, -, -, ⟨f, f13, hf⟩⟩ := id hall
            rcases hf with ⟨hf, f12⟩ | ⟨rfl, b, hpo, f12⟩
            · repeat' (first
 | (intro h; first | (exfalso; exact Bool.noConfusion h) | (simp only [decide_eq_true_eq, decide_eq_false_iff_not] at h) | skip)
 | (apply evOps_fin; (case hf => (simp only [finGo, app1]; rfl)); skip)
 | refine WP_seq ?_
 | refine WP_scope ?_
 | refine WP_block ?_
 | refine WP_ret ?_
 | refine WP_skip ?_
 | refine WP_exit ?_
 | (apply WP_region; (case hl => rfl); (case hc => (simp only [put_env', put_own', put_ctr', put_none', setOwn_env', setOwn_own', setOwn_ctr', setCtr_env', setCtr_own', setCtr_ctr', entry, entryEnv, entryOwn, inAV, scAV, inOB]; rfl)); (case hc' => (conv => lhs; simp only [List.size_toArray, List.length_cons, List.length_nil, Nat.zero_add, Nat.reduceAdd, Nat.add_assoc])); skip)
 | refine evOps_nil ?_
 | (apply evOps_one; (case hg => rfl); (case h => (simp [evStep, evPure, f13, hf]; with_reducible rfl)); skip)
 | (apply evOps_yes; (case hg => rfl); (case hb => (simp [gval, dstB, f13, hf]; done)); (case h => (simp [evStep, evPure, f13, hf]; with_reducible rfl)); skip)
 | (apply evOps_no; (case hg => rfl); (case hb => (simp [gval, dstB, f13, hf]; with_reducible rfl)); (case hne => (simp; done)); (case hd => (simp [dstB]; done)); skip)
 | (apply evOps_big; (case hg => rfl); (case hd => (simp [dstB]; done)); (case hb => (simp [evBig, evStep, evPure, f13, hf]; with_reducible rfl)); skip)
 | (apply evOps_bigYes; (case hg => rfl); (case hgv => (simp [gval, dstB, f13, hf]; done)); (case hd => (simp [dstB]; done)); (case hb => (simp [evBig, evStep, evPure, f13, hf]; with_reducible rfl)); skip)
 | (apply evOps_split; (case _hg => rfl); (case _ht => rfl); (case hb => (simp [dstB]; with_reducible rfl)); (case hv => ((fail_if_success (with_reducible exact (rfl : (_ : AV) = AV.d (.val (.bool true)) _))); (fail_if_success (with_reducible exact (rfl : (_ : AV) = AV.d (.val (.bool false)) _))); rfl)); skip)
 | (apply WP_cond; (case hx => (simp [St.eval, dstB, f13, hf]; with_reducible rfl)); (case hv => rfl); skip))
              exact hW _ ⟨hall.of (by simp [S12, dstB]), by simp [dstB, a14]⟩
            · have hfa := hpo.f k hk3
              cases ho : lookO l k with
              | none =>
                rw [ho] at hfa a15 a16 a17
                have hfa2 : findX b k = (0, false, false) := hfa
                have b15 : σ6.env 15 = .d (vi 0) true := a15
                have b16 : σ6.env 16 = .d (vb false) true := a16
                have b17 : σ6.env 17 = .d (vb false) true := a17
                cases hd : decide (e.at' ≤ k ∧ k < q)
                · rw [hd] at a18
                  repeat' (first
 | (intro h; first | (exfalso; exact Bool.noConfusion h) | (simp only [decide_eq_true_eq, decide_eq_false_iff_not] at h) | skip)
 | (apply evOps_fin; (case hf => (simp only [finGo, app1]; rfl)); skip)
 | refine WP_seq ?_
 | refine WP_scope ?_
 | refine WP_block ?_
 | refine WP_ret ?_
 | refine WP_skip ?_
 | refine WP_exit ?_
 | (apply WP_region; (case hl => rfl); (case hc => (simp only [put_env', put_own', put_ctr', put_none', setOwn_env', setOwn_own', setOwn_ctr', setCtr_env', setCtr_own', setCtr_ctr', entry, entryEnv, entryOwn, inAV, scAV, inOB]; rfl)); (case hc' => (conv => lhs; simp only [List.size_toArray, List.length_cons, List.length_nil, Nat.zero_add, Nat.reduceAdd, Nat.add_assoc])); skip)
 | refine evOps_nil ?_
 | (apply evOps_one; (case hg => rfl); (case h => (simp [evStep, evPure, f13, f12, a14, h12, sp12, decL_enc, hfa2, b15, b16, b17, a18, List.filter_cons]; with_reducible rfl)); skip)
 | (apply evOps_yes; (case hg => rfl); (case hb => (simp [gval, dstB, f13, f12, a14, h12, sp12, decL_enc, hfa2, b15, b16, b17, a18, List.filter_cons]; done)); (case h => (simp [evStep, evPure, f13, f12, a14, h12, sp12, decL_enc, hfa2, b15, b16, b17, a18, List.filter_cons]; with_reducible rfl)); skip)
 | (apply evOps_no; (case hg => rfl); (case hb => (simp [gval, dstB, f13, f12, a14, h12, sp12, decL_enc, hfa2, b15, b16, b17, a18, List.filter_cons]; with_reducible rfl)); (case hne => (simp; done)); (case hd => (simp [dstB]; done)); skip)
 | (apply evOps_big; (case hg => rfl); (case hd => (simp [dstB]; done)); (case hb => (simp [evBig, evStep, evPure, f13, f12, a14, h12, sp12, decL_enc, hfa2, b15, b16, b17, a18, List.filter_cons]; with_reducible rfl)); skip)
 | (apply evOps_bigYes; (case hg => rfl); (case hgv => (simp [gval, dstB, f13, f12, a14, h12, sp12, decL_enc, hfa2, b15, b16, b17, a18, List.filter_cons]; done)); (case hd => (simp [dstB]; done)); (case hb => (simp [evBig, evStep, evPure, f13, f12, a14, h12, sp12, decL_enc, hfa2, b15, b16, b17, a18, List.filter_cons]; with_reducible rfl)); skip)
 | (apply evOps_split; (case _hg => rfl); (case _ht => rfl); (case hb => (simp [dstB]; with_reducible rfl)); (case hv => ((fail_if_success (with_reducible exact (rfl : (_ : AV) = AV.d (.val (.bool true)) _))); (fail_if_success (with_reducible exact (rfl : (_ : AV) = AV.d (.val (.bool false)) _))); rfl)); skip)
 | (apply WP_cond; (case hx => (simp [St.eval, dstB, f13, f12, a14, h12, sp12, decL_enc, hfa2, b15, b16, b17, a18, List.filter_cons]; with_reducible rfl)); (case hv => rfl); skip))
                  all_goals exact hW _ ⟨hall.of (by simp [S12, dstB]), by simp [dstB, a14]⟩
                · rw [hd] at a18
                  repeat' (first
 | (intro h; first | (exfalso; exact Bool.noConfusion h) | (simp only [decide_eq_true_eq, decide_eq_false_iff_not] at h) | skip)
 | (apply evOps_fin; (case hf => (simp only [finGo, app1]; rfl)); skip)
 | refine WP_seq ?_
 | refine WP_scope ?_
 | refine WP_block ?_
 | refine WP_ret ?_
 | refine WP_skip ?_
 | refine WP_exit ?_
 | (apply WP_region; (case hl => rfl); (case hc => (simp only [put_env', put_own', put_ctr', put_none', setOwn_env', setOwn_own', setOwn_ctr', setCtr_env', setCtr_own', setCtr_ctr', entry, entryEnv, entryOwn, inAV, scAV, inOB]; rfl)); (case hc' => (conv => lhs; simp only [List.size_toArray, List.length_cons, List.length_nil, Nat.zero_add, Nat.reduceAdd, Nat.add_assoc])); skip)
 | refine evOps_nil ?_
 | (apply evOps_one; (case hg => rfl); (case h => (simp [evStep, evPure, f13, f12, a14, h12, sp12, decL_enc, hfa2, b15, b16, b17, a18, List.filter_cons]; with_reducible rfl)); skip)
 | (apply evOps_yes; (case hg => rfl); (case hb => (simp [gval, dstB, f13, f12, a14, h12, sp12, decL_enc, hfa2, b15, b16, b17, a18, List.filter_cons]; done)); (case h => (simp [evStep, evPure, f13, f12, a14, h12, sp12, decL_enc, hfa2, b15, b16, b17, a18, List.filter_cons]; with_reducible rfl)); skip)
 | (apply evOps_no; (case hg => rfl); (case hb => (simp [gval, dstB, f13, f12, a14, h12, sp12, decL_enc, hfa2, b15, b16, b17, a18, List.filter_cons]; with_reducible rfl)); (case hne => (simp; done)); (case hd => (simp [dstB]; done)); skip)
 | (apply evOps_big; (case hg => rfl); (case hd => (simp [dstB]; done)); (case hb => (simp [evBig, evStep, evPure, f13, f12, a14, h12, sp12, decL_enc, hfa2, b15, b16, b17, a18, List.filter_cons]; with_reducible rfl)); skip)
 | (apply evOps_bigYes; (case hg => rfl); (case hgv => (simp [gval, dstB, f13, f12, a14, h12, sp12, decL_enc, hfa2, b15, b16, b17, a18, List.filter_cons]; done)); (case hd => (simp [dstB]; done)); (case hb => (simp [evBig, evStep, evPure, f13, f12, a14, h12, sp12, decL_enc, hfa2, b15, b16, b17, a18, List.filter_cons]; with_reducible rfl)); skip)
 | (apply evOps_split; (case _hg => rfl); (case _ht => rfl); (case hb => (simp [dstB]; with_reducible rfl)); (case hv => ((fail_if_success (with_reducible exact (rfl : (_ : AV) = AV.d (.val (.bool true)) _))); (fail_if_success (with_reducible exact (rfl : (_ : AV) = AV.d (.val (.bool false)) _))); rfl)); skip)
 | (apply WP_cond; (case hx => (simp [St.eval, dstB, f13, f12, a14, h12, sp12, decL_enc, hfa2, b15, b16, b17, a18, List.filter_cons]; with_reducible rfl)); (case hv => rfl); skip))
                  all_goals exact hW _ ⟨hall.of (by simp [S12, dstB]), by simp [dstB, a14]⟩
              | some bu =>
                obtain ⟨bb, u⟩ := bu
                rw [ho] at hfa a15 a16 a17
                cases hd : decide (e.at' ≤ k ∧ k < q)
                · rw [hd] at a18 hfa
                  cases u
                  · have hfa2 : findX b k = (bb, true, true) := hfa
                    have b15 : σ6.env 15 = .d (vi bb) true := a15
                    have b16 : σ6.env 16 = .d (vb true) true := a16
                    have b17 : σ6.env 17 = .d (vb true) true := a17
                    repeat' (first
 | (intro h; first | (exfalso; exact Bool.noConfusion h) | (simp only [decide_eq_true_eq, decide_eq_false_iff_not] at h) | skip)
 | (apply evOps_fin; (case hf => (simp only [finGo, app1]; rfl)); skip)
 | refine WP_seq ?_
 | refine WP_scope ?_
 | refine WP_block ?_
 | refine WP_ret ?_
 | refine WP_skip ?_
 | refine WP_exit ?_
 | (apply WP_region; (case hl => rfl); (case hc => (simp only [put_env', put_own', put_ctr', put_none', setOwn_env', setOwn_own', setOwn_ctr', setCtr_env', setCtr_own', setCtr_ctr', entry, entryEnv, entryOwn, inAV, scAV, inOB]; rfl)); (case hc' => (conv => lhs; simp only [List.size_toArray, List.length_cons, List.length_nil, Nat.zero_add, Nat.reduceAdd, Nat.add_assoc])); skip)
 | refine evOps_nil ?_
 | (apply evOps_one; (case hg => rfl); (case h => (simp [evStep, evPure, f13, f12, a14, h12, sp12, decL_enc, hfa2, b15, b16, b17, a18, List.filter_cons]; with_reducible rfl)); skip)
 | (apply evOps_yes; (case hg => rfl); (case hb => (simp [gval, dstB, f13, f12, a14, h12, sp12, decL_enc, hfa2, b15, b16, b17, a18, List.filter_cons]; done)); (case h => (simp [evStep, evPure, f13, f12, a14, h12, sp12, decL_enc, hfa2, b15, b16, b17, a18, List.filter_cons]; with_reducible rfl)); skip)
 | (apply evOps_no; (case hg => rfl); (case hb => (simp [gval, dstB, f13, f12, a14, h12, sp12, decL_enc, hfa2, b15, b16, b17, a18, List.filter_cons]; with_reducible rfl)); (case hne => (simp; done)); (case hd => (simp [dstB]; done)); skip)
 | (apply evOps_big; (case hg => rfl); (case hd => (simp [dstB]; done)); (case hb => (simp [evBig, evStep, evPure, f13, f12, a14, h12, sp12, decL_enc, hfa2, b15, b16, b17, a18, List.filter_cons]; with_reducible rfl)); skip)
 | (apply evOps_bigYes; (case hg => rfl); (case hgv => (simp [gval, dstB, f13, f12, a14, h12, sp12, decL_enc, hfa2, b15, b16, b17, a18, List.filter_cons]; done)); (case hd => (simp [dstB]; done)); (case hb => (simp [evBig, evStep, evPure, f13, f12, a14, h12, sp12, decL_enc, hfa2, b15, b16, b17, a18, List.filter_cons]; with_reducible rfl)); skip)
 | (apply evOps_split; (case _hg => rfl); (case _ht => rfl); (case hb => (simp [dstB]; with_reducible rfl)); (case hv => ((fail_if_success (with_reducible exact (rfl : (_ : AV) = AV.d (.val (.bool true)) _))); (fail_if_success (with_reducible exact (rfl : (_ : AV) = AV.d (.val (.bool false)) _))); rfl)); skip)
 | (apply WP_cond; (case hx => (simp [St.eval, dstB, f13, f12, a14, h12, sp12, decL_enc, hfa2, b15, b16, b17, a18, List.filter_cons]; with_reducible rfl)); (case hv => rfl); skip))
                    all_goals exact hW _ ⟨hall.of (by simp [S12, dstB]), by simp [dstB, a14]⟩
                  · have hfa2 : findX b k = (bb, false, true) := hfa
                    have b15 : σ6.env 15 = .d (vi bb) true := a15
                    have b16 : σ6.env 16 = .d (vb false) true := a16
                    have b17 : σ6.env 17 = .d (vb true) true := a17
                    repeat' (first
 | (intro h; first | (exfalso; exact Bool.noConfusion h) | (simp only [decide_eq_true_eq, decide_eq_false_iff_not] at h) | skip)
 | (apply evOps_fin; (case hf => (simp only [finGo, app1]; rfl)); skip)
 | refine WP_seq ?_
 | refine WP_scope ?_
 | refine WP_block ?_
 | refine WP_ret ?_
 | refine WP_skip ?_
 | refine WP_exit ?_
 | (apply WP_region; (case hl => rfl); (case hc => (simp only [put_env', put_own', put_ctr', put_none', setOwn_env', setOwn_own', setOwn_ctr', setCtr_env', setCtr_own', setCtr_ctr', entry, entryEnv, entryOwn, inAV, scAV, inOB]; rfl)); (case hc' => (conv => lhs; simp only [List.size_toArray, List.length_cons, List.length_nil, Nat.zero_add, Nat.reduceAdd, Nat.add_assoc])); skip)
 | refine evOps_nil ?_
 | (apply evOps_one; (case hg => rfl); (case h => (simp [evStep, evPure, f13, f12, a14, h12, sp12, decL_enc, hfa2, b15, b16, b17, a18, List.filter_cons]; with_reducible rfl)); skip)
 | (apply evOps_yes; (case hg => rfl); (case hb => (simp [gval, dstB, f13, f12, a14, h12, sp12, decL_enc, hfa2, b15, b16, b17, a18, List.filter_cons]; done)); (case h => (simp [evStep, evPure, f13, f12, a14, h12, sp12, decL_enc, hfa2, b15, b16, b17, a18, List.filter_cons]; with_reducible rfl)); skip)
 | (apply evOps_no; (case hg => rfl); (case hb => (simp [gval, dstB, f13, f12, a14, h12, sp12, decL_enc, hfa2, b15, b16, b17, a18, List.filter_cons]; with_reducible rfl)); (case hne => (simp; done)); (case hd => (simp [dstB]; done)); skip)
 | (apply evOps_big; (case hg => rfl); (case hd => (simp [dstB]; done)); (case hb => (simp [evBig, evStep, evPure, f13, f12, a14, h12, sp12, decL_enc, hfa2, b15, b16, b17, a18, List.filter_cons]; with_reducible rfl)); skip)
 | (apply evOps_bigYes; (case hg => rfl); (case hgv => (simp [gval, dstB, f13, f12, a14, h12, sp12, decL_enc, hfa2, b15, b16, b17, a18, List.filter_cons]; done)); (case hd => (simp [dstB]; done)); (case hb => (simp [evBig, evStep, evPure, f13, f12, a14, h12, sp12, decL_enc, hfa2, b15, b16, b17, a18, List.filter_cons]; with_reducible rfl)); skip)
 | (apply evOps_split; (case _hg => rfl); (case _ht => rfl); (case hb => (simp [dstB]; with_reducible rfl)); (case hv => ((fail_if_success (with_reducible exact (rfl : (_ : AV) = AV.d (.val (.bool true)) _))); (fail_if_success (with_reducible exact (rfl : (_ : AV) = AV.d (.val (.bool false)) _))); rfl)); skip)
 | (apply WP_cond; (case hx => (simp [St.eval, dstB, f13, f12, a14, h12, sp12, decL_enc, hfa2, b15, b16, b17, a18, List.filter_cons]; with_reducible rfl)); (case hv => rfl); skip))
                    all_goals exact hW _ ⟨hall.of (by simp [S12, dstB]), by simp [dstB, a14]⟩
                · rw [hd] at a18 hfa
                  cases u
                  · have hfa2 : findX b k = (bb, true, true) := hfa
                    have b15 : σ6.env 15 = .d (vi bb) true := a15
                    have b16 : σ6.env 16 = .d (vb true) true := a16
                    have b17 : σ6.env 17 = .d (vb true) true := a17
                    repeat' (first
 | (intro h; first | (exfalso; exact Bool.noConfusion h) | (simp only [decide_eq_true_eq, decide_eq_false_iff_not] at h) | skip)
 | (apply evOps_fin; (case hf => (simp only [finGo, app1]; rfl)); skip)
 | refine WP_seq ?_
 | refine WP_scope ?_
 | refine WP_block ?_
 | refine WP_ret ?_
 | refine WP_skip ?_
 | refine WP_exit ?_
 | (apply WP_region; (case hl => rfl); (case hc => (simp only [put_env', put_own', put_ctr', put_none', setOwn_env', setOwn_own', setOwn_ctr', setCtr_env', setCtr_own', setCtr_ctr', entry, entryEnv, entryOwn, inAV, scAV, inOB]; rfl)); (case hc' => (conv => lhs; simp only [List.size_toArray, List.length_cons, List.length_nil, Nat.zero_add, Nat.reduceAdd, Nat.add_assoc])); skip)
 | refine evOps_nil ?_
 | (apply evOps_one; (case hg => rfl); (case h => (simp [evStep, evPure, f13, f12, a14, h12, sp12, decL_enc, hfa2, b15, b16, b17, a18, List.filter_cons]; with_reducible rfl)); skip)
 | (apply evOps_yes; (case hg => rfl); (case hb => (simp [gval, dstB, f13, f12, a14, h12, sp12, decL_enc, hfa2, b15, b16, b17, a18, List.filter_cons]; done)); (case h => (simp [evStep, evPure, f13, f12, a14, h12, sp12, decL_enc, hfa2, b15, b16, b17, a18, List.filter_cons]; with_reducible rfl)); skip)
 | (apply evOps_no; (case hg => rfl); (case hb => (simp [gval, dstB, f13, f12, a14, h12, sp12, decL_enc, hfa2, b15, b16, b17, a18, List.filter_cons]; with_reducible rfl)); (case hne => (simp; done)); (case hd => (simp [dstB]; done)); skip)
 | (apply evOps_big; (case hg => rfl); (case hd => (simp [dstB]; done)); (case hb => (simp [evBig, evStep, evPure, f13, f12, a14, h12, sp12, decL_enc, hfa2, b15, b16, b17, a18, List.filter_cons]; with_reducible rfl)); skip)
 | (apply evOps_bigYes; (case hg => rfl); (case hgv => (simp [gval, dstB, f13, f12, a14, h12, sp12, decL_enc, hfa2, b15, b16, b17, a18, List.filter_cons]; done)); (case hd => (simp [dstB]; done)); (case hb => (simp [evBig, evStep, evPure, f13, f12, a14, h12, sp12, decL_enc, hfa2, b15, b16, b17, a18, List.filter_cons]; with_reducible rfl)); skip)
 | (apply evOps_split; (case _hg => rfl); (case _ht => rfl); (case hb => (simp [dstB]; with_reducible rfl)); (case hv => ((fail_if_success (with_reducible exact (rfl : (_ : AV) = AV.d (.val (.bool true)) _))); (fail_if_success (with_reducible exact (rfl : (_ : AV) = AV.d (.val (.bool false)) _))); rfl)); skip)
 | (apply WP_cond; (case hx => (simp [St.eval, dstB, f13, f12, a14, h12, sp12, decL_enc, hfa2, b15, b16, b17, a18, List.filter_cons]; with_reducible rfl)); (case hv => rfl); skip))
                    all_goals exact hW _ ⟨hall.of (by simp [S12, dstB]), by simp [dstB, a14]⟩
                  · have hfa2 : findX b k = (bb, true, true) := hfa
                    have b15 : σ6.env 15 = .d (vi bb) true := a15
                    have b16 : σ6.env 16 = .d (vb false) true := a16
                    have b17 : σ6.env 17 = .d (vb true) true := a17
                    repeat' (first
 | (intro h; first | (exfalso; exact Bool.noConfusion h) | (simp only [decide_eq_true_eq, decide_eq_false_iff_not] at h) | skip)
 | (apply evOps_fin; (case hf => (simp only [finGo, app1]; rfl)); skip)
 | refine WP_seq ?_
 | refine WP_scope ?_
 | refine WP_block ?_
 | refine WP_ret ?_
 | refine WP_skip ?_
 | refine WP_exit ?_
 | (apply WP_region; (case hl => rfl); (case hc => (simp only [put_env', put_own', put_ctr', put_none', setOwn_env', setOwn_own', setOwn_ctr', setCtr_env', setCtr_own', setCtr_ctr', entry, entryEnv, entryOwn, inAV, scAV, inOB]; rfl)); (case hc' => (conv => lhs; simp only [List.size_toArray, List.length_cons, List.length_nil, Nat.zero_add, Nat.reduceAdd, Nat.add_assoc])); skip)
 | refine evOps_nil ?_
 | (apply evOps_one; (case hg => rfl); (case h => (simp [evStep, evPure, f13, f12, a14, h12, sp12, decL_enc, hfa2, b15, b16, b17, a18, List.filter_cons]; with_reducible rfl)); skip)
 | (apply evOps_yes; (case hg => rfl); (case hb => (simp [gval, dstB, f13, f12, a14, h12, sp12, decL_enc, hfa2, b15, b16, b17, a18, List.filter_cons]; done)); (case h => (simp [evStep, evPure, f13, f12, a14, h12, sp12, decL_enc, hfa2, b15, b16, b17, a18, List.filter_cons]; with_reducible rfl)); skip)
 | (apply evOps_no; (case hg => rfl); (case hb => (simp [gval, dstB, f13, f12, a14, h12, sp12, decL_enc, hfa2, b15, b16, b17, a18, List.filter_cons]; with_reducible rfl)); (case hne => (simp; done)); (case hd => (simp [dstB]; done)); skip)
 | (apply evOps_big; (case hg => rfl); (case hd => (simp [dstB]; done)); (case hb => (simp [evBig, evStep, evPure, f13, f12, a14, h12, sp12, decL_enc, hfa2, b15, b16, b17, a18, List.filter_cons]; with_reducible rfl)); skip)
 | (apply evOps_bigYes; (case hg => rfl); (case hgv => (simp [gval, dstB, f13, f12, a14, h12, sp12, decL_enc, hfa2, b15, b16, b17, a18, List.filter_cons]; done)); (case hd => (simp [dstB]; done)); (case hb => (simp [evBig, evStep, evPure, f13, f12, a14, h12, sp12, decL_enc, hfa2, b15, b16, b17, a18, List.filter_cons]; with_reducible rfl)); skip)
 | (apply evOps_split; (case _hg => rfl); (case _ht => rfl); (case hb => (simp [dstB]; with_reducible rfl)); (case hv => ((fail_if_success (with_reducible exact (rfl : (_ : AV) = AV.d (.val (.bool true)) _))); (fail_if_success (with_reducible exact (rfl : (_ : AV) = AV.d (.val (.bool false)) _))); rfl)); skip)
 | (apply WP_cond; (case hx => (simp [St.eval, dstB, f13, f12, a14, h12, sp12, decL_enc, hfa2, b15, b16, b17, a18, List.filter_cons]; with_reducible rfl)); (case hv => rfl); skip))
                    all_goals exact hW _ ⟨hall.of (by simp [S12, dstB]), by simp [dstB, a14]⟩
        · have hwk : IntKind.i64.wrap (k + 1) = k + 1 := w64_in (by omega) (by omega)
          repeat' (first
 | (intro h; first | (exfalso; exact Bool.noConfusion h) | (simp only [decide_eq_true_eq, decide_eq_false_iff_not] at h) | skip)
 | (apply evOps_fin; (case hf => (simp only [finGo, app1]; rfl)); skip)
 | refine WP_seq ?_
 | refine WP_scope ?_
 | refine WP_block ?_
 | refine WP_ret ?_
 | refine WP_skip ?_
 | refine WP_exit ?_
 | (apply WP_region; (case hl => rfl); (case hc => (simp only [put_env', put_own', put_ctr', put_none', setOwn_env', setOwn_own', setOwn_ctr', setCtr_env', setCtr_own', setCtr_ctr', entry, entryEnv, entryOwn, inAV, scAV, inOB]; rfl)); (case hc' => (conv => lhs; simp only [List.size_toArray, List.length_cons, List.length_nil, Nat.zero_add, Nat.reduceAdd, Nat.add_assoc])); skip)
 | refine evOps_nil ?_
 | (apply evOps_one; (case hg => rfl); (case h => (simp [evStep, evPure, a14, hwk]; with_reducible rfl)); skip)
 | (apply evOps_yes; (case hg => rfl); (case hb => (simp [gval, dstB, a14, hwk]; done)); (case h => (simp [evStep, evPure, a14, hwk]; with_reducible rfl)); skip)
 | (apply evOps_no; (case hg => rfl); (case hb => (simp [gval, dstB, a14, hwk]; with_reducible rfl)); (case hne => (simp; done)); (case hd => (simp [dstB]; done)); skip)
 | (apply evOps_big; (case hg => rfl); (case hd => (simp [dstB]; done)); (case hb => (simp [evBig, evStep, evPure, a14, hwk]; with_reducible rfl)); skip)
 | (apply evOps_bigYes; (case hg => rfl); (case hgv => (simp [gval, dstB, a14, hwk]; done)); (case hd => (simp [dstB]; done)); (case hb => (simp [evBig, evStep, evPure, a14, hwk]; with_reducible rfl)); skip)
 | (apply evOps_split; (case _hg => rfl); (case _ht => rfl); (case hb => (simp [dstB]; with_reducible rfl)); (case hv => ((fail_if_success (with_reducible exact (rfl : (_ : AV) = AV.d (.val (.bool true)) _))); (fail_if_success (with_reducible exact (rfl : (_ : AV) = AV.d (.val (.bool false)) _))); rfl)); skip)
 | (apply WP_cond; (case hx => (simp [St.eval, dstB, a14, hwk]; with_reducible rfl)); (case hv => rfl); skip))
          refine ⟨258 - (i + 1), gc [0, 2, 4, 7, 8, 9, 11, 12, 13, 14] [4, 40] _, by omega, gc_forget _ _ _, i + 1, by omega, rfl, hall.of (by simp [S12, gc, restrictEnv, restrictOwn, dstB]), ?_⟩
          have hk4 : (((i + 1 : Nat) : Int) - 1) = k + 1 := by omega
          rw [hk4]
          simp [gc, restrictEnv, dstB]
      · have hk1 : ¬ k ≤ 256 := by omega
        repeat' (first
 | (intro h; first | (exfalso; exact Bool.noConfusion h) | (simp only [decide_eq_true_eq, decide_eq_false_iff_not] at h) | skip)
 | (apply evOps_fin; (case hf => (simp only [finGo, app1]; rfl)); skip)
 | refine WP_seq ?_
 | refine WP_scope ?_
 | refine WP_block ?_
 | refine WP_ret ?_
 | refine WP_skip ?_
 | refine WP_exit ?_
 | (apply WP_region; (case hl => rfl); (case hc => (simp only [put_env', put_own', put_ctr', put_none', setOwn_env', setOwn_own', setOwn_ctr', setCtr_env', setCtr_own', setCtr_ctr', entry, entryEnv, entryOwn, inAV, scAV, inOB]; rfl)); (case hc' => (conv => lhs; simp only [List.size_toArray, List.length_cons, List.length_nil, Nat.zero_add, Nat.reduceAdd, Nat.add_assoc])); skip)
 | refine evOps_nil ?_
 | (apply evOps_one; (case hg => rfl); (case h => (simp [evStep, evPure, a14, hk1]; with_reducible rfl)); skip)
 | (apply evOps_yes; (case hg => rfl); (case hb => (simp [gval, dstB, a14, hk1]; done)); (case h => (simp [evStep, evPure, a14, hk1]; with_reducible rfl)); skip)
 | (apply evOps_no; (case hg => rfl); (case hb => (simp [gval, dstB, a14, hk1]; with_reducible rfl)); (case hne => (simp; done)); (case hd => (simp [dstB]; done)); skip)
 | (apply evOps_big; (case hg => rfl); (case hd => (simp [dstB]; done)); (case hb => (simp [evBig, evStep, evPure, a14, hk1]; with_reducible rfl)); skip)
 | (apply evOps_bigYes; (case hg => rfl); (case hgv => (simp [gval, dstB, a14, hk1]; done)); (case hd => (simp [dstB]; done)); (case hb => (simp [evBig, evStep, evPure, a14, hk1]; with_reducible rfl)); skip)
 | (apply evOps_split; (case _hg => rfl); (case _ht => rfl); (case hb => (simp [dstB]; with_reducible rfl)); (case hv => ((fail_if_success (with_reducible exact (rfl : (_ : AV) = AV.d (.val (.bool true)) _))); (fail_if_success (with_reducible exact (rfl : (_ : AV) = AV.d (.val (.bool false)) _))); rfl)); skip)
 | (apply WP_cond; (case hx => (simp [St.eval, dstB, a14, hk1]; with_reducible rfl)); (case hv => rfl); skip))
        all_goals simp [Fin1, resVals, ownOf, FinList1, FinOne1, FinWr1, nodupB, Try.results3, evStep, evPure]
end Go.Dv
