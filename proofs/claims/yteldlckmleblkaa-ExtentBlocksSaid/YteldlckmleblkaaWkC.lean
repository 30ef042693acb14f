/-
  DERIVED, MY OWN. A part of the proof of ExtentBlocks: see the last text (Row).
-/
import Derived.Test.YteldlckmleblkaaWkB
import Derived.Test.YteldlckmleblkaaXt
set_option linter.all false
/-
  DERIVED, MY OWN. THE WALK OF split's iterator.
-/


set_option autoImplicit false
set_option maxRecDepth 20000
set_option linter.unusedSimpArgs false
set_option linter.unusedVariables false
namespace Go.Dv
open Go Go.RowKit Go.Proofs

def D55 : Dep := fun
  | 3 => (16, [[], [0], [], [0, 1, 2], [], [4], [0, 1, 2, 3, 4, 5], [], [7], [], [7, 8, 9], [], [4, 5, 11], [4, 5, 7, 8, 9, 10, 11, 12], [0, 1, 2, 3, 4, 5, 6, 11, 12], [0, 1, 2, 3, 4, 5, 6, 7, 8, 9, 10, 11, 12, 13, 14]])
  | 6 => (15, [[], [0], [], [], [2, 3], [0, 1, 2, 3, 4], [0, 1, 2, 3, 4, 5], [0, 1, 2, 3, 4, 5, 6], [0, 1, 2, 3, 4, 5, 6], [0, 1, 2, 3, 4, 5, 6], [0, 1, 2, 3, 4, 5, 6], [0, 1, 2, 3, 4, 5, 6, 9, 10], [0, 1, 2, 3, 4, 5, 6], [0, 1, 2, 3, 4, 5, 6, 12], [0, 1, 2, 3, 4, 5, 6, 8, 9, 10, 11, 12, 13], [0, 1, 2, 3, 4, 5, 6, 7, 8, 9, 10, 11, 12, 13, 14], [0, 1, 2, 3, 4, 5, 6, 7, 8, 9, 10, 11, 12, 13, 14, 15], [0, 1, 2, 3, 4, 5, 6, 7, 8, 9, 10, 11, 12, 13, 14, 15, 16]])
  | _ => (0, [])
noncomputable def b55 : Code := Try.f55.body.getD .skip
theorem hb55 : Try.f55.body = some b55 := rfl

/-- The captured boxes. -/
def Caps (n : Bool) (l : List Xt) (p q : Int) (g3 g4 g5 : Nat) (m3 m4 m5 : Bool) (σ : St) : Prop :=
  σ.own 1003 = some (.var 22 g3 m3 [.d (.sl n (l.map Xt.enc)) false]) ∧ σ.own 1004 = some (.var 3 g4 m4 [.d (vi p) false]) ∧ σ.own 1005 = some (.var 3 g5 m5 [.d (vi q) false])

set_option maxHeartbeats 4000000 in
theorem split_walk {T : Tbl} (h23 : T 23 = some sp23) (h56 : T 56 = some sp56) {σ : St} {s g g3 g4 g5 : Nat} {m3 m4 m5 n : Bool} {l : List Xt} {p q : Int} {Y : Tr} {K : St → Prop}
    (Inv : List (Xt × Bool) → St → Prop) (hlen : l.length ≤ 1000)
    (hI : ∀ d σ σ', (∀ x, x < 2000 → σ'.own x = σ.own x) → σ.ctr ≤ σ'.ctr → Inv d σ → Inv d σ')
    (hB : ∀ d σ, Inv d σ → Caps n l p q g3 g4 g5 m3 m4 m5 σ)
    (hY : ∀ d pc rest σi K', piecesX p q l = d ++ pc :: rest → Inv d σi →
      (∀ σ', σ'.env = σi.env → σi.ctr ≤ σ'.ctr → (∀ x, 2000 ≤ x → σ'.own x = σi.own x) → Inv (d ++ [pc]) σ' → K' (.d (vb true) true) σ') →
      Y s g [.agg (lift true pc.1.enc), .d (vb pc.2) true] K' σi)
    (hK : ∀ σ', σ.ctr ≤ σ'.ctr → σ'.env = σ.env → Inv (piecesX p q l) σ' → K σ') (h0 : Inv [] σ) :
    itBody Try.prog T Big.none D55 Try.f55 b55 2000 s g [.rp 1003 g3 0 0, .rp 1004 g4 0 0, .rp 1005 g5 0 0] Y K σ := by
  refine ⟨by simp [Try.ntmps55], ?_⟩
  show WP _ _ _ _ _ _ _ (Code.seq _ _) _ _
  obtain ⟨b3, b4, b5⟩ := hB _ _ h0
  repeat' (first
 | (intro h; first | (exfalso; exact Bool.noConfusion h) | (simp only [decide_eq_true_eq, decide_eq_false_iff_not] at h) | skip)
 | (apply evOps_fin; (case hf => (simp only [finGo, app1]; rfl)); skip)
 | refine WP_seq ?_
 | refine WP_scope ?_
 | refine WP_block ?_
 | refine WP_ret ?_
 | refine WP_skip ?_
 | refine WP_exit ?_
 | (apply WP_region; (case hl => rfl); (case hc => (simp only [put_env', put_own', put_ctr', put_none', setOwn_env', setOwn_own', setOwn_ctr', setCtr_env', setCtr_own', setCtr_ctr', entry, entryEnv, entryOwn, inAV, scAV, inOB]; rfl)); (case hc' => (conv => lhs; simp only [List.size_toArray, List.length_cons, List.length_nil, Nat.zero_add, Nat.reduceAdd, Nat.add_assoc])); skip)
 | (apply WP_draw; (case hl => rfl); (case hds => (simp only [List.map_cons, List.map_nil]; rfl)); (case hc => (simp only [put_env', put_own', put_ctr', put_none', setOwn_env', setOwn_own', setOwn_ctr', setCtr_env', setCtr_own', setCtr_ctr', entry, entryEnv, entryOwn, inAV, scAV, inOB]; rfl)); (case hc' => (conv => lhs; simp only [List.size_toArray, List.length_cons, List.length_nil, Nat.zero_add, Nat.reduceAdd, Nat.add_assoc])); (case hD => rfl); (case hb => kernel_rfl); (case h1 => (simp only [List.take_succ_cons, List.take_zero]; rfl)); (case h2 => (simp only [List.drop_succ_cons, List.drop_zero]; rfl)); (case h3 => (simp only [List.take_succ_cons, List.take_zero]; rfl)); intro had; skip)
 | refine evOps_nil ?_
 | refine evQ_nil ?_
 | (apply evQ_one; (case had => assumption); (case hg => rfl); (case hd => (simp [dstB]; done)); (case h => (simp [evQuiet, evCallQ, known, njk, AV.isJunk, Op.operands, Call.operands, evEff, evStep, evPure, b3, b4, b5, envOf]; with_reducible rfl)); (case hs => (simp; done)); (case hR => (simp only [List.nil_append, List.cons_append]; rfl)); skip)
 | (apply evQ_yes; (case had => assumption); (case hg => rfl); (case hb => (simp [gval, evEff, dstB, b3, b4, b5, envOf]; done)); (case hd => (simp [dstB]; done)); (case h => (simp [evQuiet, evCallQ, known, njk, AV.isJunk, Op.operands, Call.operands, evEff, evStep, evPure, b3, b4, b5, envOf]; with_reducible rfl)); (case hs => (simp; done)); (case hR => (simp only [List.nil_append, List.cons_append]; rfl)); skip)
 | (apply evQ_no; (case had => assumption); (case hg => rfl); (case hb => (simp [gval, evEff, dstB, b3, b4, b5, envOf]; with_reducible rfl)); (case hne => (simp; done)); (case hd => (simp [dstB]; done)); (case hR => (simp only [List.nil_append, List.cons_append]; rfl)); skip)
 | (apply evQ_split; (case hg => rfl); (case hb => (simp only [List.getElem?_cons_succ, List.getElem?_cons_zero]; rfl)); (case hv => ((fail_if_success (with_reducible exact (rfl : (_ : QR) = (AV.d (.val (.bool true)) _, none)))); (fail_if_success (with_reducible exact (rfl : (_ : QR) = (AV.d (.val (.bool false)) _, none)))); rfl)); (case hT => (simp only [List.set_cons_succ, List.set_cons_zero]; rfl)); (case hF => (simp only [List.set_cons_succ, List.set_cons_zero]; rfl)); skip)
 | (apply evOps_one; (case hg => rfl); (case h => (simp [evStep, evPure, b3, b4, b5, envOf]; with_reducible rfl)); skip)
 | (apply evOps_yes; (case hg => rfl); (case hb => (simp [gval, dstB, b3, b4, b5, envOf]; done)); (case h => (simp [evStep, evPure, b3, b4, b5, envOf]; with_reducible rfl)); skip)
 | (apply evOps_no; (case hg => rfl); (case hb => (simp [gval, dstB, b3, b4, b5, envOf]; with_reducible rfl)); (case hne => (simp; done)); (case hd => (simp [dstB]; done)); skip)
 | (apply evOps_big; (case hg => rfl); (case hd => (simp [dstB]; done)); (case hb => (simp [evBig, evStep, evPure, b3, b4, b5, envOf]; with_reducible rfl)); skip)
 | (apply evOps_bigYes; (case hg => rfl); (case hgv => (simp [gval, dstB, b3, b4, b5, envOf]; done)); (case hd => (simp [dstB]; done)); (case hb => (simp [evBig, evStep, evPure, b3, b4, b5, envOf]; with_reducible rfl)); skip)
 | (apply evOps_split; (case _hg => rfl); (case _ht => rfl); (case hb => (simp [dstB]; with_reducible rfl)); (case hv => ((fail_if_success (with_reducible exact (rfl : (_ : AV) = AV.d (.val (.bool true)) _))); (fail_if_success (with_reducible exact (rfl : (_ : AV) = AV.d (.val (.bool false)) _))); rfl)); skip)
 | (apply WP_cond; (case hx => (simp [St.eval, dstB, b3, b4, b5, envOf]; with_reducible rfl)); (case hv => rfl); skip))
  refine WP_loop (fun k σ1 => ∃ (i : Nat), i ≤ l.length ∧ k = l.length - i ∧ σ.ctr ≤ σ1.ctr ∧
    σ1.env 0 = .yld s g ∧ σ1.env 1 = .rp 1003 g3 0 0 ∧ σ1.env 2 = .rp 1004 g4 0 0 ∧ σ1.env 3 = .rp 1005 g5 0 0 ∧
    σ1.env 9 = .d (.sl n (l.map Xt.enc)) false ∧ σ1.env 10 = .d (vi l.length) true ∧ σ1.env 11 = .d (vi i) true ∧ Inv (piecesX p q (l.take i)) σ1) l.length (gcF [0, 1, 2, 3, 9, 10, 11] [] 2000 3000 _) (gcF_forget _ _ _ _ _) ?_ ?_
  · refine ⟨0, Nat.zero_le _, rfl, ?_, ?_, ?_, ?_, ?_, ?_, ?_, ?_, ?_⟩
    · simp [gcF, dstB]; try omega
    · simp [gcF, restrictEnv, dstB]
    · simp [gcF, restrictEnv, dstB]
    · simp [gcF, restrictEnv, dstB]
    · simp [gcF, restrictEnv, dstB]
    · simp [gcF, restrictEnv, dstB]
    · simp [gcF, restrictEnv, dstB]
    · simp [gcF, restrictEnv, dstB]
    · refine hI _ σ _ (fun x hx => ?_) ?_ h0
      · have q2 : ¬ 2000 ≤ x := by omega
        simp [gcF, dstB, q2]
      · simp [gcF, dstB]; try omega
  · rintro k σ1 ⟨i, hil, rfl, hct, a0, a1, a2, a3, a9, a10, a11, hinv⟩
    obtain ⟨b3, b4, b5⟩ := hB _ _ hinv
    by_cases hlt : i < l.length
    · obtain ⟨e, he⟩ : ∃ e, l[i]? = some e := ⟨_, List.getElem?_eq_getElem hlt⟩
      have hlt' : (i : Int) < (l.length : Int) := by omega
      have he2 : l[i]'hlt = e := by have := he; rw [List.getElem?_eq_getElem hlt] at this; exact Option.some.inj this
      have hsp := piecesX_split p q he
      have htk := piecesX_take p q he
      obtain ⟨lo, hlo⟩ : ∃ x, loX e p = x := ⟨_, rfl⟩
      obtain ⟨hi, hhi⟩ : ∃ x, loX e q = x := ⟨_, rfl⟩
      have hlo' : min (max e.at' p) (endX e) = lo := hlo
      have hhi' : min (max e.at' q) (endX e) = hi := hhi
      have hwi : IntKind.i64.wrap ((i : Int) + 1) = (i : Int) + 1 := w64_in (by omega) (by omega)
      by_cases hA : e.at' < lo
      · by_cases hB' : lo < hi
        · by_cases hC : max lo hi < endX e
          · have hE : piecesE p q e = [(partX e e.at' lo, false), (partX e lo hi, true), (partX e (max lo hi) (endX e), false)] := by simp [piecesE, hlo, hhi, hA, hB', hC]
            repeat' (first
 | (intro h; first | (exfalso; exact Bool.noConfusion h) | (simp only [decide_eq_true_eq, decide_eq_false_iff_not] at h) | skip)
 | (apply evOps_fin; (case hf => (simp only [finGo, app1]; rfl)); skip)
 | refine WP_seq ?_
 | refine WP_scope ?_
 | refine WP_block ?_
 | refine WP_ret ?_
 | refine WP_skip ?_
 | refine WP_exit ?_
 | (apply WP_region; (case hl => rfl); (case hc => (simp only [put_env', put_own', put_ctr', put_none', setOwn_env', setOwn_own', setOwn_ctr', setCtr_env', setCtr_own', setCtr_ctr', entry, entryEnv, entryOwn, inAV, scAV, inOB]; rfl)); (case hc' => (conv => lhs; simp only [List.size_toArray, List.length_cons, List.length_nil, Nat.zero_add, Nat.reduceAdd, Nat.add_assoc])); skip)
 | (apply WP_draw; (case hl => rfl); (case hds => (simp only [List.map_cons, List.map_nil]; rfl)); (case hc => (simp only [put_env', put_own', put_ctr', put_none', setOwn_env', setOwn_own', setOwn_ctr', setCtr_env', setCtr_own', setCtr_ctr', entry, entryEnv, entryOwn, inAV, scAV, inOB]; rfl)); (case hc' => (conv => lhs; simp only [List.size_toArray, List.length_cons, List.length_nil, Nat.zero_add, Nat.reduceAdd, Nat.add_assoc])); (case hD => rfl); (case hb => kernel_rfl); (case h1 => (simp only [List.take_succ_cons, List.take_zero]; rfl)); (case h2 => (simp only [List.drop_succ_cons, List.drop_zero]; rfl)); (case h3 => (simp only [List.take_succ_cons, List.take_zero]; rfl)); intro had; skip)
 | refine evOps_nil ?_
 | refine evQ_nil ?_
 | (apply evQ_one; (case had => assumption); (case hg => rfl); (case hd => (simp [dstB]; done)); (case h => (simp [evQuiet, evCallQ, known, njk, AV.isJunk, Op.operands, Call.operands, evEff, evStep, evPure, b3, b4, b5, a0, a1, a2, a3, a9, a10, a11, Xt.enc, h23, sp23, h56, sp56, decX, xt_eta, hA, hB', hC, hlt, hlt', he, he2, hlo', hhi']; with_reducible rfl)); (case hs => (simp; done)); (case hR => (simp only [List.nil_append, List.cons_append]; rfl)); skip)
 | (apply evQ_yes; (case had => assumption); (case hg => rfl); (case hb => (simp [gval, evEff, dstB, b3, b4, b5, a0, a1, a2, a3, a9, a10, a11, Xt.enc, h23, sp23, h56, sp56, decX, xt_eta, hA, hB', hC, hlt, hlt', he, he2, hlo', hhi']; done)); (case hd => (simp [dstB]; done)); (case h => (simp [evQuiet, evCallQ, known, njk, AV.isJunk, Op.operands, Call.operands, evEff, evStep, evPure, b3, b4, b5, a0, a1, a2, a3, a9, a10, a11, Xt.enc, h23, sp23, h56, sp56, decX, xt_eta, hA, hB', hC, hlt, hlt', he, he2, hlo', hhi']; with_reducible rfl)); (case hs => (simp; done)); (case hR => (simp only [List.nil_append, List.cons_append]; rfl)); skip)
 | (apply evQ_no; (case had => assumption); (case hg => rfl); (case hb => (simp [gval, evEff, dstB, b3, b4, b5, a0, a1, a2, a3, a9, a10, a11, Xt.enc, h23, sp23, h56, sp56, decX, xt_eta, hA, hB', hC, hlt, hlt', he, he2, hlo', hhi']; with_reducible rfl)); (case hne => (simp; done)); (case hd => (simp [dstB]; done)); (case hR => (simp only [List.nil_append, List.cons_append]; rfl)); skip)
 | (apply evQ_split; (case hg => rfl); (case hb => (simp only [List.getElem?_cons_succ, List.getElem?_cons_zero]; rfl)); (case hv => ((fail_if_success (with_reducible exact (rfl : (_ : QR) = (AV.d (.val (.bool true)) _, none)))); (fail_if_success (with_reducible exact (rfl : (_ : QR) = (AV.d (.val (.bool false)) _, none)))); rfl)); (case hT => (simp only [List.set_cons_succ, List.set_cons_zero]; rfl)); (case hF => (simp only [List.set_cons_succ, List.set_cons_zero]; rfl)); skip)
 | (apply evOps_one; (case hg => rfl); (case h => (simp [evStep, evPure, b3, b4, b5, a0, a1, a2, a3, a9, a10, a11, Xt.enc, h23, sp23, h56, sp56, decX, xt_eta, hA, hB', hC, hlt, hlt', he, he2, hlo', hhi']; with_reducible rfl)); skip)
 | (apply evOps_yes; (case hg => rfl); (case hb => (simp [gval, dstB, b3, b4, b5, a0, a1, a2, a3, a9, a10, a11, Xt.enc, h23, sp23, h56, sp56, decX, xt_eta, hA, hB', hC, hlt, hlt', he, he2, hlo', hhi']; done)); (case h => (simp [evStep, evPure, b3, b4, b5, a0, a1, a2, a3, a9, a10, a11, Xt.enc, h23, sp23, h56, sp56, decX, xt_eta, hA, hB', hC, hlt, hlt', he, he2, hlo', hhi']; with_reducible rfl)); skip)
 | (apply evOps_no; (case hg => rfl); (case hb => (simp [gval, dstB, b3, b4, b5, a0, a1, a2, a3, a9, a10, a11, Xt.enc, h23, sp23, h56, sp56, decX, xt_eta, hA, hB', hC, hlt, hlt', he, he2, hlo', hhi']; with_reducible rfl)); (case hne => (simp; done)); (case hd => (simp [dstB]; done)); skip)
 | (apply evOps_big; (case hg => rfl); (case hd => (simp [dstB]; done)); (case hb => (simp [evBig, evStep, evPure, b3, b4, b5, a0, a1, a2, a3, a9, a10, a11, Xt.enc, h23, sp23, h56, sp56, decX, xt_eta, hA, hB', hC, hlt, hlt', he, he2, hlo', hhi']; with_reducible rfl)); skip)
 | (apply evOps_bigYes; (case hg => rfl); (case hgv => (simp [gval, dstB, b3, b4, b5, a0, a1, a2, a3, a9, a10, a11, Xt.enc, h23, sp23, h56, sp56, decX, xt_eta, hA, hB', hC, hlt, hlt', he, he2, hlo', hhi']; done)); (case hd => (simp [dstB]; done)); (case hb => (simp [evBig, evStep, evPure, b3, b4, b5, a0, a1, a2, a3, a9, a10, a11, Xt.enc, h23, sp23, h56, sp56, decX, xt_eta, hA, hB', hC, hlt, hlt', he, he2, hlo', hhi']; with_reducible rfl)); skip)
 | (apply evOps_split; (case _hg => rfl); (case _ht => rfl); (case hb => (simp [dstB]; with_reducible rfl)); (case hv => ((fail_if_success (with_reducible exact (rfl : (_ : AV) = AV.d (.val (.bool true)) _))); (fail_if_success (with_reducible exact (rfl : (_ : AV) = AV.d (.val (.bool false)) _))); rfl)); skip)
 | (apply WP_cond; (case hx => (simp [St.eval, dstB, b3, b4, b5, a0, a1, a2, a3, a9, a10, a11, Xt.enc, h23, sp23, h56, sp56, decX, xt_eta, hA, hB', hC, hlt, hlt', he, he2, hlo', hhi']; with_reducible rfl)); (case hv => rfl); skip))
            refine hY (piecesX p q (l.take i)) ((partX e e.at' lo, false)) ((partX e lo hi, true) :: (partX e (max lo hi) (endX e), false) :: piecesX p q (l.drop (i + 1))) _ _ (by rw [hsp, hE]; simp) (hI _ σ1 _ (fun x hx => by
              have q1 : ¬ x = 2006 := by omega
              simp [dstB, q1]) (by simp [dstB]; try omega) (by simpa using hinv)) ?_
            intro σ2 henv hc hown hinv'
            clear hinv
            have hinv := hinv'
            clear hinv'
            simp only [put_env', put_own', put_ctr', put_none', setOwn_env', setOwn_own', setOwn_ctr', setCtr_env', setCtr_own', setCtr_ctr', entry, entryEnv, entryOwn, inAV, scAV, inOB] at hc
            have c0 : σ2.env 0 = .yld s g := by rw [henv]; simp [dstB, a0]
            have c1 : σ2.env 1 = .rp 1003 g3 0 0 := by rw [henv]; simp [dstB, a1]
            have c2 : σ2.env 2 = .rp 1004 g4 0 0 := by rw [henv]; simp [dstB, a2]
            have c3 : σ2.env 3 = .rp 1005 g5 0 0 := by rw [henv]; simp [dstB, a3]
            have c9 : σ2.env 9 = .d (.sl n (l.map Xt.enc)) false := by rw [henv]; simp [dstB, a9]
            have c10 : σ2.env 10 = .d (vi l.length) true := by rw [henv]; simp [dstB, a10]
            have c11 : σ2.env 11 = .d (vi i) true := by rw [henv]; simp [dstB, a11]
            have c6 : ∃ g6 m6, σ2.env 6 = .rp 2006 g6 0 0 ∧ σ2.own 2006 = some (.var 24 g6 m6 [.d (vi e.at') false, .d (vi e.start) false, .d (vi e.len) false, .d (vb e.un) false]) := ⟨_, _, by rw [henv]; simp [dstB]; rfl, by rw [hown 2006 (by decide)]; simp [dstB]; try rfl⟩
            have c7 : σ2.env 7 = .d (vi lo) true := by rw [henv]; simp [dstB]
            have c8 : σ2.env 8 = .d (vi hi) true := by rw [henv]; simp [dstB]
            have cG : σ2.env 33 = .d (.val (.bool true)) true := by rw [henv]; simp [dstB, hA, hB', hC]
            obtain ⟨g6, m6, e6, o6⟩ := c6
            clear b3 b4 b5 a0 a1 a2 a3 a9 a10 a11 henv hown
            obtain ⟨b3, b4, b5⟩ := hB _ _ hinv
            have a0 := c0
            have a1 := c1
            have a2 := c2
            have a3 := c3
            have a9 := c9
            have a10 := c10
            have a11 := c11
            have a6 := e6
            have p6 := o6
            have a7 := c7
            have a8 := c8
            clear c0 c1 c2 c3 c9 c10 c11 e6 o6 c7 c8
            have aG := cG
            clear cG
            show evOps _ _ _ _ _ _ _ _ _ _ _
            repeat' (first
 | (intro h; first | (exfalso; exact Bool.noConfusion h) | (simp only [decide_eq_true_eq, decide_eq_false_iff_not] at h) | skip)
 | (apply evOps_fin; (case hf => (simp only [finGo, app1]; rfl)); skip)
 | refine WP_seq ?_
 | refine WP_scope ?_
 | refine WP_block ?_
 | refine WP_ret ?_
 | refine WP_skip ?_
 | refine WP_exit ?_
 | (apply WP_region; (case hl => rfl); (case hc => (simp only [put_env', put_own', put_ctr', put_none', setOwn_env', setOwn_own', setOwn_ctr', setCtr_env', setCtr_own', setCtr_ctr', entry, entryEnv, entryOwn, inAV, scAV, inOB]; rfl)); (case hc' => (conv => lhs; simp only [List.size_toArray, List.length_cons, List.length_nil, Nat.zero_add, Nat.reduceAdd, Nat.add_assoc])); skip)
 | (apply WP_draw; (case hl => rfl); (case hds => (simp only [List.map_cons, List.map_nil]; rfl)); (case hc => (simp only [put_env', put_own', put_ctr', put_none', setOwn_env', setOwn_own', setOwn_ctr', setCtr_env', setCtr_own', setCtr_ctr', entry, entryEnv, entryOwn, inAV, scAV, inOB]; rfl)); (case hc' => (conv => lhs; simp only [List.size_toArray, List.length_cons, List.length_nil, Nat.zero_add, Nat.reduceAdd, Nat.add_assoc])); (case hD => rfl); (case hb => kernel_rfl); (case h1 => (simp only [List.take_succ_cons, List.take_zero]; rfl)); (case h2 => (simp only [List.drop_succ_cons, List.drop_zero]; rfl)); (case h3 => (simp only [List.take_succ_cons, List.take_zero]; rfl)); intro had; skip)
 | refine evOps_nil ?_
 | refine evQ_nil ?_
 | (apply evQ_one; (case had => assumption); (case hg => rfl); (case hd => (simp [dstB]; done)); (case h => (simp [evQuiet, evCallQ, known, njk, AV.isJunk, Op.operands, Call.operands, evEff, evStep, evPure, b3, b4, b5, a0, a1, a2, a3, a9, a10, a11, Xt.enc, h23, sp23, h56, sp56, decX, xt_eta, hA, hB', hC, a6, p6, a7, a8, aG]; with_reducible rfl)); (case hs => (simp; done)); (case hR => (simp only [List.nil_append, List.cons_append]; rfl)); skip)
 | (apply evQ_yes; (case had => assumption); (case hg => rfl); (case hb => (simp [gval, evEff, dstB, b3, b4, b5, a0, a1, a2, a3, a9, a10, a11, Xt.enc, h23, sp23, h56, sp56, decX, xt_eta, hA, hB', hC, a6, p6, a7, a8, aG]; done)); (case hd => (simp [dstB]; done)); (case h => (simp [evQuiet, evCallQ, known, njk, AV.isJunk, Op.operands, Call.operands, evEff, evStep, evPure, b3, b4, b5, a0, a1, a2, a3, a9, a10, a11, Xt.enc, h23, sp23, h56, sp56, decX, xt_eta, hA, hB', hC, a6, p6, a7, a8, aG]; with_reducible rfl)); (case hs => (simp; done)); (case hR => (simp only [List.nil_append, List.cons_append]; rfl)); skip)
 | (apply evQ_no; (case had => assumption); (case hg => rfl); (case hb => (simp [gval, evEff, dstB, b3, b4, b5, a0, a1, a2, a3, a9, a10, a11, Xt.enc, h23, sp23, h56, sp56, decX, xt_eta, hA, hB', hC, a6, p6, a7, a8, aG]; with_reducible rfl)); (case hne => (simp; done)); (case hd => (simp [dstB]; done)); (case hR => (simp only [List.nil_append, List.cons_append]; rfl)); skip)
 | (apply evQ_split; (case hg => rfl); (case hb => (simp only [List.getElem?_cons_succ, List.getElem?_cons_zero]; rfl)); (case hv => ((fail_if_success (with_reducible exact (rfl : (_ : QR) = (AV.d (.val (.bool true)) _, none)))); (fail_if_success (with_reducible exact (rfl : (_ : QR) = (AV.d (.val (.bool false)) _, none)))); rfl)); (case hT => (simp only [List.set_cons_succ, List.set_cons_zero]; rfl)); (case hF => (simp only [List.set_cons_succ, List.set_cons_zero]; rfl)); skip)
 | (apply evOps_one; (case hg => rfl); (case h => (simp [evStep, evPure, b3, b4, b5, a0, a1, a2, a3, a9, a10, a11, Xt.enc, h23, sp23, h56, sp56, decX, xt_eta, hA, hB', hC, a6, p6, a7, a8, aG]; with_reducible rfl)); skip)
 | (apply evOps_yes; (case hg => rfl); (case hb => (simp [gval, dstB, b3, b4, b5, a0, a1, a2, a3, a9, a10, a11, Xt.enc, h23, sp23, h56, sp56, decX, xt_eta, hA, hB', hC, a6, p6, a7, a8, aG]; done)); (case h => (simp [evStep, evPure, b3, b4, b5, a0, a1, a2, a3, a9, a10, a11, Xt.enc, h23, sp23, h56, sp56, decX, xt_eta, hA, hB', hC, a6, p6, a7, a8, aG]; with_reducible rfl)); skip)
 | (apply evOps_no; (case hg => rfl); (case hb => (simp [gval, dstB, b3, b4, b5, a0, a1, a2, a3, a9, a10, a11, Xt.enc, h23, sp23, h56, sp56, decX, xt_eta, hA, hB', hC, a6, p6, a7, a8, aG]; with_reducible rfl)); (case hne => (simp; done)); (case hd => (simp [dstB]; done)); skip)
 | (apply evOps_big; (case hg => rfl); (case hd => (simp [dstB]; done)); (case hb => (simp [evBig, evStep, evPure, b3, b4, b5, a0, a1, a2, a3, a9, a10, a11, Xt.enc, h23, sp23, h56, sp56, decX, xt_eta, hA, hB', hC, a6, p6, a7, a8, aG]; with_reducible rfl)); skip)
 | (apply evOps_bigYes; (case hg => rfl); (case hgv => (simp [gval, dstB, b3, b4, b5, a0, a1, a2, a3, a9, a10, a11, Xt.enc, h23, sp23, h56, sp56, decX, xt_eta, hA, hB', hC, a6, p6, a7, a8, aG]; done)); (case hd => (simp [dstB]; done)); (case hb => (simp [evBig, evStep, evPure, b3, b4, b5, a0, a1, a2, a3, a9, a10, a11, Xt.enc, h23, sp23, h56, sp56, decX, xt_eta, hA, hB', hC, a6, p6, a7, a8, aG]; with_reducible rfl)); skip)
 | (apply evOps_split; (case _hg => rfl); (case _ht => rfl); (case hb => (simp [dstB]; with_reducible rfl)); (case hv => ((fail_if_success (with_reducible exact (rfl : (_ : AV) = AV.d (.val (.bool true)) _))); (fail_if_success (with_reducible exact (rfl : (_ : AV) = AV.d (.val (.bool false)) _))); rfl)); skip)
 | (apply WP_cond; (case hx => (simp [St.eval, dstB, b3, b4, b5, a0, a1, a2, a3, a9, a10, a11, Xt.enc, h23, sp23, h56, sp56, decX, xt_eta, hA, hB', hC, a6, p6, a7, a8, aG]; with_reducible rfl)); (case hv => rfl); skip))
            refine hY ((piecesX p q (l.take i) ++ [(partX e e.at' lo, false)])) ((partX e lo hi, true)) ((partX e (max lo hi) (endX e), false) :: piecesX p q (l.drop (i + 1))) _ _ (by rw [hsp, hE]; simp) (hI _ σ2 _ (fun x hx => by
              have q1 : ¬ x = 2006 := by omega
              simp [dstB, q1]) (by simp [dstB]; try omega) (by simpa using hinv)) ?_
            intro σ3 henv hc hown hinv'
            clear hinv
            have hinv := hinv'
            clear hinv'
            simp only [put_env', put_own', put_ctr', put_none', setOwn_env', setOwn_own', setOwn_ctr', setCtr_env', setCtr_own', setCtr_ctr', entry, entryEnv, entryOwn, inAV, scAV, inOB] at hc
            have c0 : σ3.env 0 = .yld s g := by rw [henv]; simp [dstB, a0]
            have c1 : σ3.env 1 = .rp 1003 g3 0 0 := by rw [henv]; simp [dstB, a1]
            have c2 : σ3.env 2 = .rp 1004 g4 0 0 := by rw [henv]; simp [dstB, a2]
            have c3 : σ3.env 3 = .rp 1005 g5 0 0 := by rw [henv]; simp [dstB, a3]
            have c9 : σ3.env 9 = .d (.sl n (l.map Xt.enc)) false := by rw [henv]; simp [dstB, a9]
            have c10 : σ3.env 10 = .d (vi l.length) true := by rw [henv]; simp [dstB, a10]
            have c11 : σ3.env 11 = .d (vi i) true := by rw [henv]; simp [dstB, a11]
            have c6 : ∃ g6 m6, σ3.env 6 = .rp 2006 g6 0 0 ∧ σ3.own 2006 = some (.var 24 g6 m6 [.d (vi e.at') false, .d (vi e.start) false, .d (vi e.len) false, .d (vb e.un) false]) := ⟨_, _, by rw [henv]; simp [dstB, a6, p6]; rfl, by rw [hown 2006 (by decide)]; simp [dstB, a6, p6]; try rfl⟩
            have c7 : σ3.env 7 = .d (vi lo) true := by rw [henv]; simp [dstB, a7]
            have c8 : σ3.env 8 = .d (vi hi) true := by rw [henv]; simp [dstB, a8]
            have cG : σ3.env 46 = .d (.val (.bool true)) true := by rw [henv]; simp [dstB, hA, hB', hC]
            obtain ⟨g6, m6, e6, o6⟩ := c6
            clear b3 b4 b5 a0 a1 a2 a3 a9 a10 a11 a6 p6 a7 a8 aG henv hown
            obtain ⟨b3, b4, b5⟩ := hB _ _ hinv
            have a0 := c0
            have a1 := c1
            have a2 := c2
            have a3 := c3
            have a9 := c9
            have a10 := c10
            have a11 := c11
            have a6 := e6
            have p6 := o6
            have a7 := c7
            have a8 := c8
            clear c0 c1 c2 c3 c9 c10 c11 e6 o6 c7 c8
            have aG := cG
            clear cG
            show evOps _ _ _ _ _ _ _ _ _ _ _
            repeat' (first
 | (intro h; first | (exfalso; exact Bool.noConfusion h) | (simp only [decide_eq_true_eq, decide_eq_false_iff_not] at h) | skip)
 | (apply evOps_fin; (case hf => (simp only [finGo, app1]; rfl)); skip)
 | refine WP_seq ?_
 | refine WP_scope ?_
 | refine WP_block ?_
 | refine WP_ret ?_
 | refine WP_skip ?_
 | refine WP_exit ?_
 | (apply WP_region; (case hl => rfl); (case hc => (simp only [put_env', put_own', put_ctr', put_none', setOwn_env', setOwn_own', setOwn_ctr', setCtr_env', setCtr_own', setCtr_ctr', entry, entryEnv, entryOwn, inAV, scAV, inOB]; rfl)); (case hc' => (conv => lhs; simp only [List.size_toArray, List.length_cons, List.length_nil, Nat.zero_add, Nat.reduceAdd, Nat.add_assoc])); skip)
 | (apply WP_draw; (case hl => rfl); (case hds => (simp only [List.map_cons, List.map_nil]; rfl)); (case hc => (simp only [put_env', put_own', put_ctr', put_none', setOwn_env', setOwn_own', setOwn_ctr', setCtr_env', setCtr_own', setCtr_ctr', entry, entryEnv, entryOwn, inAV, scAV, inOB]; rfl)); (case hc' => (conv => lhs; simp only [List.size_toArray, List.length_cons, List.length_nil, Nat.zero_add, Nat.reduceAdd, Nat.add_assoc])); (case hD => rfl); (case hb => kernel_rfl); (case h1 => (simp only [List.take_succ_cons, List.take_zero]; rfl)); (case h2 => (simp only [List.drop_succ_cons, List.drop_zero]; rfl)); (case h3 => (simp only [List.take_succ_cons, List.take_zero]; rfl)); intro had; skip)
 | refine evOps_nil ?_
 | refine evQ_nil ?_
 | (apply evQ_one; (case had => assumption); (case hg => rfl); (case hd => (simp [dstB]; done)); (case h => (simp [evQuiet, evCallQ, known, njk, AV.isJunk, Op.operands, Call.operands, evEff, evStep, evPure, b3, b4, b5, a0, a1, a2, a3, a9, a10, a11, Xt.enc, h23, sp23, h56, sp56, decX, xt_eta, hA, hB', hC, a6, p6, a7, a8, aG]; with_reducible rfl)); (case hs => (simp; done)); (case hR => (simp only [List.nil_append, List.cons_append]; rfl)); skip)
 | (apply evQ_yes; (case had => assumption); (case hg => rfl); (case hb => (simp [gval, evEff, dstB, b3, b4, b5, a0, a1, a2, a3, a9, a10, a11, Xt.enc, h23, sp23, h56, sp56, decX, xt_eta, hA, hB', hC, a6, p6, a7, a8, aG]; done)); (case hd => (simp [dstB]; done)); (case h => (simp [evQuiet, evCallQ, known, njk, AV.isJunk, Op.operands, Call.operands, evEff, evStep, evPure, b3, b4, b5, a0, a1, a2, a3, a9, a10, a11, Xt.enc, h23, sp23, h56, sp56, decX, xt_eta, hA, hB', hC, a6, p6, a7, a8, aG]; with_reducible rfl)); (case hs => (simp; done)); (case hR => (simp only [List.nil_append, List.cons_append]; rfl)); skip)
 | (apply evQ_no; (case had => assumption); (case hg => rfl); (case hb => (simp [gval, evEff, dstB, b3, b4, b5, a0, a1, a2, a3, a9, a10, a11, Xt.enc, h23, sp23, h56, sp56, decX, xt_eta, hA, hB', hC, a6, p6, a7, a8, aG]; with_reducible rfl)); (case hne => (simp; done)); (case hd => (simp [dstB]; done)); (case hR => (simp only [List.nil_append, List.cons_append]; rfl)); skip)
 | (apply evQ_split; (case hg => rfl); (case hb => (simp only [List.getElem?_cons_succ, List.getElem?_cons_zero]; rfl)); (case hv => ((fail_if_success (with_reducible exact (rfl : (_ : QR) = (AV.d (.val (.bool true)) _, none)))); (fail_if_success (with_reducible exact (rfl : (_ : QR) = (AV.d (.val (.bool false)) _, none)))); rfl)); (case hT => (simp only [List.set_cons_succ, List.set_cons_zero]; rfl)); (case hF => (simp only [List.set_cons_succ, List.set_cons_zero]; rfl)); skip)
 | (apply evOps_one; (case hg => rfl); (case h => (simp [evStep, evPure, b3, b4, b5, a0, a1, a2, a3, a9, a10, a11, Xt.enc, h23, sp23, h56, sp56, decX, xt_eta, hA, hB', hC, a6, p6, a7, a8, aG]; with_reducible rfl)); skip)
 | (apply evOps_yes; (case hg => rfl); (case hb => (simp [gval, dstB, b3, b4, b5, a0, a1, a2, a3, a9, a10, a11, Xt.enc, h23, sp23, h56, sp56, decX, xt_eta, hA, hB', hC, a6, p6, a7, a8, aG]; done)); (case h => (simp [evStep, evPure, b3, b4, b5, a0, a1, a2, a3, a9, a10, a11, Xt.enc, h23, sp23, h56, sp56, decX, xt_eta, hA, hB', hC, a6, p6, a7, a8, aG]; with_reducible rfl)); skip)
 | (apply evOps_no; (case hg => rfl); (case hb => (simp [gval, dstB, b3, b4, b5, a0, a1, a2, a3, a9, a10, a11, Xt.enc, h23, sp23, h56, sp56, decX, xt_eta, hA, hB', hC, a6, p6, a7, a8, aG]; with_reducible rfl)); (case hne => (simp; done)); (case hd => (simp [dstB]; done)); skip)
 | (apply evOps_big; (case hg => rfl); (case hd => (simp [dstB]; done)); (case hb => (simp [evBig, evStep, evPure, b3, b4, b5, a0, a1, a2, a3, a9, a10, a11, Xt.enc, h23, sp23, h56, sp56, decX, xt_eta, hA, hB', hC, a6, p6, a7, a8, aG]; with_reducible rfl)); skip)
 | (apply evOps_bigYes; (case hg => rfl); (case hgv => (simp [gval, dstB, b3, b4, b5, a0, a1, a2, a3, a9, a10, a11, Xt.enc, h23, sp23, h56, sp56, decX, xt_eta, hA, hB', hC, a6, p6, a7, a8, aG]; done)); (case hd => (simp [dstB]; done)); (case hb => (simp [evBig, evStep, evPure, b3, b4, b5, a0, a1, a2, a3, a9, a10, a11, Xt.enc, h23, sp23, h56, sp56, decX, xt_eta, hA, hB', hC, a6, p6, a7, a8, aG]; with_reducible rfl)); skip)
 | (apply evOps_split; (case _hg => rfl); (case _ht => rfl); (case hb => (simp [dstB]; with_reducible rfl)); (case hv => ((fail_if_success (with_reducible exact (rfl : (_ : AV) = AV.d (.val (.bool true)) _))); (fail_if_success (with_reducible exact (rfl : (_ : AV) = AV.d (.val (.bool false)) _))); rfl)); skip)
 | (apply WP_cond; (case hx => (simp [St.eval, dstB, b3, b4, b5, a0, a1, a2, a3, a9, a10, a11, Xt.enc, h23, sp23, h56, sp56, decX, xt_eta, hA, hB', hC, a6, p6, a7, a8, aG]; with_reducible rfl)); (case hv => rfl); skip))
            refine hY (((piecesX p q (l.take i) ++ [(partX e e.at' lo, false)]) ++ [(partX e lo hi, true)])) ((partX e (max lo hi) (endX e), false)) (piecesX p q (l.drop (i + 1))) _ _ (by rw [hsp, hE]; simp) (hI _ σ3 _ (fun x hx => by
              have q1 : ¬ x = 2006 := by omega
              simp [dstB, q1]) (by simp [dstB]; try omega) (by simpa using hinv)) ?_
            intro σ4 henv hc hown hinv'
            clear hinv
            have hinv := hinv'
            clear hinv'
            simp only [put_env', put_own', put_ctr', put_none', setOwn_env', setOwn_own', setOwn_ctr', setCtr_env', setCtr_own', setCtr_ctr', entry, entryEnv, entryOwn, inAV, scAV, inOB] at hc
            have c0 : σ4.env 0 = .yld s g := by rw [henv]; simp [dstB, a0]
            have c1 : σ4.env 1 = .rp 1003 g3 0 0 := by rw [henv]; simp [dstB, a1]
            have c2 : σ4.env 2 = .rp 1004 g4 0 0 := by rw [henv]; simp [dstB, a2]
            have c3 : σ4.env 3 = .rp 1005 g5 0 0 := by rw [henv]; simp [dstB, a3]
            have c9 : σ4.env 9 = .d (.sl n (l.map Xt.enc)) false := by rw [henv]; simp [dstB, a9]
            have c10 : σ4.env 10 = .d (vi l.length) true := by rw [henv]; simp [dstB, a10]
            have c11 : σ4.env 11 = .d (vi i) true := by rw [henv]; simp [dstB, a11]
            have c6 : ∃ g6 m6, σ4.env 6 = .rp 2006 g6 0 0 ∧ σ4.own 2006 = some (.var 24 g6 m6 [.d (vi e.at') false, .d (vi e.start) false, .d (vi e.len) false, .d (vb e.un) false]) := ⟨_, _, by rw [henv]; simp [dstB, a6, p6]; rfl, by rw [hown 2006 (by decide)]; simp [dstB, a6, p6]; try rfl⟩
            have c7 : σ4.env 7 = .d (vi lo) true := by rw [henv]; simp [dstB, a7]
            have c8 : σ4.env 8 = .d (vi hi) true := by rw [henv]; simp [dstB, a8]
            have cG : σ4.env 61 = .d (.val (.bool true)) true := by rw [henv]; simp [dstB, hA, hB', hC]
            obtain ⟨g6, m6, e6, o6⟩ := c6
            clear b3 b4 b5 a0 a1 a2 a3 a9 a10 a11 a6 p6 a7 a8 aG henv hown
            obtain ⟨b3, b4, b5⟩ := hB _ _ hinv
            have a0 := c0
            have a1 := c1
            have a2 := c2
            have a3 := c3
            have a9 := c9
            have a10 := c10
            have a11 := c11
            have a6 := e6
            have p6 := o6
            have a7 := c7
            have a8 := c8
            clear c0 c1 c2 c3 c9 c10 c11 e6 o6 c7 c8
            have aG := cG
            clear cG
            show evOps _ _ _ _ _ _ _ _ _ _ _
            repeat' (first
 | (intro h; first | (exfalso; exact Bool.noConfusion h) | (simp only [decide_eq_true_eq, decide_eq_false_iff_not] at h) | skip)
 | (apply evOps_fin; (case hf => (simp only [finGo, app1]; rfl)); skip)
 | refine WP_seq ?_
 | refine WP_scope ?_
 | refine WP_block ?_
 | refine WP_ret ?_
 | refine WP_skip ?_
 | refine WP_exit ?_
 | (apply WP_region; (case hl => rfl); (case hc => (simp only [put_env', put_own', put_ctr', put_none', setOwn_env', setOwn_own', setOwn_ctr', setCtr_env', setCtr_own', setCtr_ctr', entry, entryEnv, entryOwn, inAV, scAV, inOB]; rfl)); (case hc' => (conv => lhs; simp only [List.size_toArray, List.length_cons, List.length_nil, Nat.zero_add, Nat.reduceAdd, Nat.add_assoc])); skip)
 | (apply WP_draw; (case hl => rfl); (case hds => (simp only [List.map_cons, List.map_nil]; rfl)); (case hc => (simp only [put_env', put_own', put_ctr', put_none', setOwn_env', setOwn_own', setOwn_ctr', setCtr_env', setCtr_own', setCtr_ctr', entry, entryEnv, entryOwn, inAV, scAV, inOB]; rfl)); (case hc' => (conv => lhs; simp only [List.size_toArray, List.length_cons, List.length_nil, Nat.zero_add, Nat.reduceAdd, Nat.add_assoc])); (case hD => rfl); (case hb => kernel_rfl); (case h1 => (simp only [List.take_succ_cons, List.take_zero]; rfl)); (case h2 => (simp only [List.drop_succ_cons, List.drop_zero]; rfl)); (case h3 => (simp only [List.take_succ_cons, List.take_zero]; rfl)); intro had; skip)
 | refine evOps_nil ?_
 | refine evQ_nil ?_
 | (apply evQ_one; (case had => assumption); (case hg => rfl); (case hd => (simp [dstB]; done)); (case h => (simp [evQuiet, evCallQ, known, njk, AV.isJunk, Op.operands, Call.operands, evEff, evStep, evPure, b3, b4, b5, a0, a1, a2, a3, a9, a10, a11, Xt.enc, h23, sp23, h56, sp56, decX, xt_eta, hA, hB', hC, a6, p6, a7, a8, aG]; with_reducible rfl)); (case hs => (simp; done)); (case hR => (simp only [List.nil_append, List.cons_append]; rfl)); skip)
 | (apply evQ_yes; (case had => assumption); (case hg => rfl); (case hb => (simp [gval, evEff, dstB, b3, b4, b5, a0, a1, a2, a3, a9, a10, a11, Xt.enc, h23, sp23, h56, sp56, decX, xt_eta, hA, hB', hC, a6, p6, a7, a8, aG]; done)); (case hd => (simp [dstB]; done)); (case h => (simp [evQuiet, evCallQ, known, njk, AV.isJunk, Op.operands, Call.operands, evEff, evStep, evPure, b3, b4, b5, a0, a1, a2, a3, a9, a10, a11, Xt.enc, h23, sp23, h56, sp56, decX, xt_eta, hA, hB', hC, a6, p6, a7, a8, aG]; with_reducible rfl)); (case hs => (simp; done)); (case hR => (simp only [List.nil_append, List.cons_append]; rfl)); skip)
 | (apply evQ_no; (case had => assumption); (case hg => rfl); (case hb => (simp [gval, evEff, dstB, b3, b4, b5, a0, a1, a2, a3, a9, a10, a11, Xt.enc, h23, sp23, h56, sp56, decX, xt_eta, hA, hB', hC, a6, p6, a7, a8, aG]; with_reducible rfl)); (case hne => (simp; done)); (case hd => (simp [dstB]; done)); (case hR => (simp only [List.nil_append, List.cons_append]; rfl)); skip)
 | (apply evQ_split; (case hg => rfl); (case hb => (simp only [List.getElem?_cons_succ, List.getElem?_cons_zero]; rfl)); (case hv => ((fail_if_success (with_reducible exact (rfl : (_ : QR) = (AV.d (.val (.bool true)) _, none)))); (fail_if_success (with_reducible exact (rfl : (_ : QR) = (AV.d (.val (.bool false)) _, none)))); rfl)); (case hT => (simp only [List.set_cons_succ, List.set_cons_zero]; rfl)); (case hF => (simp only [List.set_cons_succ, List.set_cons_zero]; rfl)); skip)
 | (apply evOps_one; (case hg => rfl); (case h => (simp [evStep, evPure, b3, b4, b5, a0, a1, a2, a3, a9, a10, a11, Xt.enc, h23, sp23, h56, sp56, decX, xt_eta, hA, hB', hC, a6, p6, a7, a8, aG]; with_reducible rfl)); skip)
 | (apply evOps_yes; (case hg => rfl); (case hb => (simp [gval, dstB, b3, b4, b5, a0, a1, a2, a3, a9, a10, a11, Xt.enc, h23, sp23, h56, sp56, decX, xt_eta, hA, hB', hC, a6, p6, a7, a8, aG]; done)); (case h => (simp [evStep, evPure, b3, b4, b5, a0, a1, a2, a3, a9, a10, a11, Xt.enc, h23, sp23, h56, sp56, decX, xt_eta, hA, hB', hC, a6, p6, a7, a8, aG]; with_reducible rfl)); skip)
 | (apply evOps_no; (case hg => rfl); (case hb => (simp [gval, dstB, b3, b4, b5, a0, a1, a2, a3, a9, a10, a11, Xt.enc, h23, sp23, h56, sp56, decX, xt_eta, hA, hB', hC, a6, p6, a7, a8, aG]; with_reducible rfl)); (case hne => (simp; done)); (case hd => (simp [dstB]; done)); skip)
 | (apply evOps_big; (case hg => rfl); (case hd => (simp [dstB]; done)); (case hb => (simp [evBig, evStep, evPure, b3, b4, b5, a0, a1, a2, a3, a9, a10, a11, Xt.enc, h23, sp23, h56, sp56, decX, xt_eta, hA, hB', hC, a6, p6, a7, a8, aG]; with_reducible rfl)); skip)
 | (apply evOps_bigYes; (case hg => rfl); (case hgv => (simp [gval, dstB, b3, b4, b5, a0, a1, a2, a3, a9, a10, a11, Xt.enc, h23, sp23, h56, sp56, decX, xt_eta, hA, hB', hC, a6, p6, a7, a8, aG]; done)); (case hd => (simp [dstB]; done)); (case hb => (simp [evBig, evStep, evPure, b3, b4, b5, a0, a1, a2, a3, a9, a10, a11, Xt.enc, h23, sp23, h56, sp56, decX, xt_eta, hA, hB', hC, a6, p6, a7, a8, aG]; with_reducible rfl)); skip)
 | (apply evOps_split; (case _hg => rfl); (case _ht => rfl); (case hb => (simp [dstB]; with_reducible rfl)); (case hv => ((fail_if_success (with_reducible exact (rfl : (_ : AV) = AV.d (.val (.bool true)) _))); (fail_if_success (with_reducible exact (rfl : (_ : AV) = AV.d (.val (.bool false)) _))); rfl)); skip)
 | (apply WP_cond; (case hx => (simp [St.eval, dstB, b3, b4, b5, a0, a1, a2, a3, a9, a10, a11, Xt.enc, h23, sp23, h56, sp56, decX, xt_eta, hA, hB', hC, a6, p6, a7, a8, aG]; with_reducible rfl)); (case hv => rfl); skip))
            refine ⟨l.length - (i + 1), gcF [0, 1, 2, 3, 9, 10, 11] [] 2000 3000 _, by omega, gcF_forget _ _ _ _ _, i + 1, by omega, rfl, ?_, ?_, ?_, ?_, ?_, ?_, ?_, ?_, ?_⟩
            · simp [gcF, dstB]; omega
            · simp [gcF, restrictEnv, dstB, a0]
            · simp [gcF, restrictEnv, dstB, a1]
            · simp [gcF, restrictEnv, dstB, a2]
            · simp [gcF, restrictEnv, dstB, a3]
            · simp [gcF, restrictEnv, dstB, a9]
            · simp [gcF, restrictEnv, dstB, a10]
            · simp [gcF, restrictEnv, dstB, a11, hwi]
            · rw [htk, hE]
              refine hI _ σ4 _ (fun x hx => ?_) ?_ (by simpa using hinv)
              · have q1 : ¬ x = 2006 := by omega
                have q2 : ¬ 2000 ≤ x := by omega
                simp [gcF, dstB, q1, q2]
              · simp [gcF, dstB]; try omega
          · have hE : piecesE p q e = [(partX e e.at' lo, false), (partX e lo hi, true)] := by simp [piecesE, hlo, hhi, hA, hB', hC]
            repeat' (first
 | (intro h; first | (exfalso; exact Bool.noConfusion h) | (simp only [decide_eq_true_eq, decide_eq_false_iff_not] at h) | skip)
 | (apply evOps_fin; (case hf => (simp only [finGo, app1]; rfl)); skip)
 | refine WP_seq ?_
 | refine WP_scope ?_
 | refine WP_block ?_
 | refine WP_ret ?_
 | refine WP_skip ?_
 | refine WP_exit ?_
 | (apply WP_region; (case hl => rfl); (case hc => (simp only [put_env', put_own', put_ctr', put_none', setOwn_env', setOwn_own', setOwn_ctr', setCtr_env', setCtr_own', setCtr_ctr', entry, entryEnv, entryOwn, inAV, scAV, inOB]; rfl)); (case hc' => (conv => lhs; simp only [List.size_toArray, List.length_cons, List.length_nil, Nat.zero_add, Nat.reduceAdd, Nat.add_assoc])); skip)
 | (apply WP_draw; (case hl => rfl); (case hds => (simp only [List.map_cons, List.map_nil]; rfl)); (case hc => (simp only [put_env', put_own', put_ctr', put_none', setOwn_env', setOwn_own', setOwn_ctr', setCtr_env', setCtr_own', setCtr_ctr', entry, entryEnv, entryOwn, inAV, scAV, inOB]; rfl)); (case hc' => (conv => lhs; simp only [List.size_toArray, List.length_cons, List.length_nil, Nat.zero_add, Nat.reduceAdd, Nat.add_assoc])); (case hD => rfl); (case hb => kernel_rfl); (case h1 => (simp only [List.take_succ_cons, List.take_zero]; rfl)); (case h2 => (simp only [List.drop_succ_cons, List.drop_zero]; rfl)); (case h3 => (simp only [List.take_succ_cons, List.take_zero]; rfl)); intro had; skip)
 | refine evOps_nil ?_
 | refine evQ_nil ?_
 | (apply evQ_one; (case had => assumption); (case hg => rfl); (case hd => (simp [dstB]; done)); (case h => (simp [evQuiet, evCallQ, known, njk, AV.isJunk, Op.operands, Call.operands, evEff, evStep, evPure, b3, b4, b5, a0, a1, a2, a3, a9, a10, a11, Xt.enc, h23, sp23, h56, sp56, decX, xt_eta, hA, hB', hC, hlt, hlt', he, he2, hlo', hhi']; with_reducible rfl)); (case hs => (simp; done)); (case hR => (simp only [List.nil_append, List.cons_append]; rfl)); skip)
 | (apply evQ_yes; (case had => assumption); (case hg => rfl); (case hb => (simp [gval, evEff, dstB, b3, b4, b5, a0, a1, a2, a3, a9, a10, a11, Xt.enc, h23, sp23, h56, sp56, decX, xt_eta, hA, hB', hC, hlt, hlt', he, he2, hlo', hhi']; done)); (case hd => (simp [dstB]; done)); (case h => (simp [evQuiet, evCallQ, known, njk, AV.isJunk, Op.operands, Call.operands, evEff, evStep, evPure, b3, b4, b5, a0, a1, a2, a3, a9, a10, a11, Xt.enc, h23, sp23, h56, sp56, decX, xt_eta, hA, hB', hC, hlt, hlt', he, he2, hlo', hhi']; with_reducible rfl)); (case hs => (simp; done)); (case hR => (simp only [List.nil_append, List.cons_append]; rfl)); skip)
 | (apply evQ_no; (case had => assumption); (case hg => rfl); (case hb => (simp [gval, evEff, dstB, b3, b4, b5, a0, a1, a2, a3, a9, a10, a11, Xt.enc, h23, sp23, h56, sp56, decX, xt_eta, hA, hB', hC, hlt, hlt', he, he2, hlo', hhi']; with_reducible rfl)); (case hne => (simp; done)); (case hd => (simp [dstB]; done)); (case hR => (simp only [List.nil_append, List.cons_append]; rfl)); skip)
 | (apply evQ_split; (case hg => rfl); (case hb => (simp only [List.getElem?_cons_succ, List.getElem?_cons_zero]; rfl)); (case hv => ((fail_if_success (with_reducible exact (rfl : (_ : QR) = (AV.d (.val (.bool true)) _, none)))); (fail_if_success (with_reducible exact (rfl : (_ : QR) = (AV.d (.val (.bool false)) _, none)))); rfl)); (case hT => (simp only [List.set_cons_succ, List.set_cons_zero]; rfl)); (case hF => (simp only [List.set_cons_succ, List.set_cons_zero]; rfl)); skip)
 | (apply evOps_one; (case hg => rfl); (case h => (simp [evStep, evPure, b3, b4, b5, a0, a1, a2, a3, a9, a10, a11, Xt.enc, h23, sp23, h56, sp56, decX, xt_eta, hA, hB', hC, hlt, hlt', he, he2, hlo', hhi']; with_reducible rfl)); skip)
 | (apply evOps_yes; (case hg => rfl); (case hb => (simp [gval, dstB, b3, b4, b5, a0, a1, a2, a3, a9, a10, a11, Xt.enc, h23, sp23, h56, sp56, decX, xt_eta, hA, hB', hC, hlt, hlt', he, he2, hlo', hhi']; done)); (case h => (simp [evStep, evPure, b3, b4, b5, a0, a1, a2, a3, a9, a10, a11, Xt.enc, h23, sp23, h56, sp56, decX, xt_eta, hA, hB', hC, hlt, hlt', he, he2, hlo', hhi']; with_reducible rfl)); skip)
 | (apply evOps_no; (case hg => rfl); (case hb => (simp [gval, dstB, b3, b4, b5, a0, a1, a2, a3, a9, a10, a11, Xt.enc, h23, sp23, h56, sp56, decX, xt_eta, hA, hB', hC, hlt, hlt', he, he2, hlo', hhi']; with_reducible rfl)); (case hne => (simp; done)); (case hd => (simp [dstB]; done)); skip)
 | (apply evOps_big; (case hg => rfl); (case hd => (simp [dstB]; done)); (case hb => (simp [evBig, evStep, evPure, b3, b4, b5, a0, a1, a2, a3, a9, a10, a11, Xt.enc, h23, sp23, h56, sp56, decX, xt_eta, hA, hB', hC, hlt, hlt', he, he2, hlo', hhi']; with_reducible rfl)); skip)
 | (apply evOps_bigYes; (case hg => rfl); (case hgv => (simp [gval, dstB, b3, b4, b5, a0, a1, a2, a3, a9, a10, a11, Xt.enc, h23, sp23, h56, sp56, decX, xt_eta, hA, hB', hC, hlt, hlt', he, he2, hlo', hhi']; done)); (case hd => (simp [dstB]; done)); (case hb => (simp [evBig, evStep, evPure, b3, b4, b5, a0, a1, a2, a3, a9, a10, a11, Xt.enc, h23, sp23, h56, sp56, decX, xt_eta, hA, hB', hC, hlt, hlt', he, he2, hlo', hhi']; with_reducible rfl)); skip)
 | (apply evOps_split; (case _hg => rfl); (case _ht => rfl); (case hb => (simp [dstB]; with_reducible rfl)); (case hv => ((fail_if_success (with_reducible exact (rfl : (_ : AV) = AV.d (.val (.bool true)) _))); (fail_if_success (with_reducible exact (rfl : (_ : AV) = AV.d (.val (.bool false)) _))); rfl)); skip)
 | (apply WP_cond; (case hx => (simp [St.eval, dstB, b3, b4, b5, a0, a1, a2, a3, a9, a10, a11, Xt.enc, h23, sp23, h56, sp56, decX, xt_eta, hA, hB', hC, hlt, hlt', he, he2, hlo', hhi']; with_reducible rfl)); (case hv => rfl); skip))
            refine hY (piecesX p q (l.take i)) ((partX e e.at' lo, false)) ((partX e lo hi, true) :: piecesX p q (l.drop (i + 1))) _ _ (by rw [hsp, hE]; simp) (hI _ σ1 _ (fun x hx => by
              have q1 : ¬ x = 2006 := by omega
              simp [dstB, q1]) (by simp [dstB]; try omega) (by simpa using hinv)) ?_
            intro σ2 henv hc hown hinv'
            clear hinv
            have hinv := hinv'
            clear hinv'
            simp only [put_env', put_own', put_ctr', put_none', setOwn_env', setOwn_own', setOwn_ctr', setCtr_env', setCtr_own', setCtr_ctr', entry, entryEnv, entryOwn, inAV, scAV, inOB] at hc
            have c0 : σ2.env 0 = .yld s g := by rw [henv]; simp [dstB, a0]
            have c1 : σ2.env 1 = .rp 1003 g3 0 0 := by rw [henv]; simp [dstB, a1]
            have c2 : σ2.env 2 = .rp 1004 g4 0 0 := by rw [henv]; simp [dstB, a2]
            have c3 : σ2.env 3 = .rp 1005 g5 0 0 := by rw [henv]; simp [dstB, a3]
            have c9 : σ2.env 9 = .d (.sl n (l.map Xt.enc)) false := by rw [henv]; simp [dstB, a9]
            have c10 : σ2.env 10 = .d (vi l.length) true := by rw [henv]; simp [dstB, a10]
            have c11 : σ2.env 11 = .d (vi i) true := by rw [henv]; simp [dstB, a11]
            have c6 : ∃ g6 m6, σ2.env 6 = .rp 2006 g6 0 0 ∧ σ2.own 2006 = some (.var 24 g6 m6 [.d (vi e.at') false, .d (vi e.start) false, .d (vi e.len) false, .d (vb e.un) false]) := ⟨_, _, by rw [henv]; simp [dstB]; rfl, by rw [hown 2006 (by decide)]; simp [dstB]; try rfl⟩
            have c7 : σ2.env 7 = .d (vi lo) true := by rw [henv]; simp [dstB]
            have c8 : σ2.env 8 = .d (vi hi) true := by rw [henv]; simp [dstB]
            have cG : σ2.env 33 = .d (.val (.bool true)) true := by rw [henv]; simp [dstB, hA, hB', hC]
            obtain ⟨g6, m6, e6, o6⟩ := c6
            clear b3 b4 b5 a0 a1 a2 a3 a9 a10 a11 henv hown
            obtain ⟨b3, b4, b5⟩ := hB _ _ hinv
            have a0 := c0
            have a1 := c1
            have a2 := c2
            have a3 := c3
            have a9 := c9
            have a10 := c10
            have a11 := c11
            have a6 := e6
            have p6 := o6
            have a7 := c7
            have a8 := c8
            clear c0 c1 c2 c3 c9 c10 c11 e6 o6 c7 c8
            have aG := cG
            clear cG
            show evOps _ _ _ _ _ _ _ _ _ _ _
            repeat' (first
 | (intro h; first | (exfalso; exact Bool.noConfusion h) | (simp only [decide_eq_true_eq, decide_eq_false_iff_not] at h) | skip)
 | (apply evOps_fin; (case hf => (simp only [finGo, app1]; rfl)); skip)
 | refine WP_seq ?_
 | refine WP_scope ?_
 | refine WP_block ?_
 | refine WP_ret ?_
 | refine WP_skip ?_
 | refine WP_exit ?_
 | (apply WP_region; (case hl => rfl); (case hc => (simp only [put_env', put_own', put_ctr', put_none', setOwn_env', setOwn_own', setOwn_ctr', setCtr_env', setCtr_own', setCtr_ctr', entry, entryEnv, entryOwn, inAV, scAV, inOB]; rfl)); (case hc' => (conv => lhs; simp only [List.size_toArray, List.length_cons, List.length_nil, Nat.zero_add, Nat.reduceAdd, Nat.add_assoc])); skip)
 | (apply WP_draw; (case hl => rfl); (case hds => (simp only [List.map_cons, List.map_nil]; rfl)); (case hc => (simp only [put_env', put_own', put_ctr', put_none', setOwn_env', setOwn_own', setOwn_ctr', setCtr_env', setCtr_own', setCtr_ctr', entry, entryEnv, entryOwn, inAV, scAV, inOB]; rfl)); (case hc' => (conv => lhs; simp only [List.size_toArray, List.length_cons, List.length_nil, Nat.zero_add, Nat.reduceAdd, Nat.add_assoc])); (case hD => rfl); (case hb => kernel_rfl); (case h1 => (simp only [List.take_succ_cons, List.take_zero]; rfl)); (case h2 => (simp only [List.drop_succ_cons, List.drop_zero]; rfl)); (case h3 => (simp only [List.take_succ_cons, List.take_zero]; rfl)); intro had; skip)
 | refine evOps_nil ?_
 | refine evQ_nil ?_
 | (apply evQ_one; (case had => assumption); (case hg => rfl); (case hd => (simp [dstB]; done)); (case h => (simp [evQuiet, evCallQ, known, njk, AV.isJunk, Op.operands, Call.operands, evEff, evStep, evPure, b3, b4, b5, a0, a1, a2, a3, a9, a10, a11, Xt.enc, h23, sp23, h56, sp56, decX, xt_eta, hA, hB', hC, a6, p6, a7, a8, aG]; with_reducible rfl)); (case hs => (simp; done)); (case hR => (simp only [List.nil_append, List.cons_append]; rfl)); skip)
 | (apply evQ_yes; (case had => assumption); (case hg => rfl); (case hb => (simp [gval, evEff, dstB, b3, b4, b5, a0, a1, a2, a3, a9, a10, a11, Xt.enc, h23, sp23, h56, sp56, decX, xt_eta, hA, hB', hC, a6, p6, a7, a8, aG]; done)); (case hd => (simp [dstB]; done)); (case h => (simp [evQuiet, evCallQ, known, njk, AV.isJunk, Op.operands, Call.operands, evEff, evStep, evPure, b3, b4, b5, a0, a1, a2, a3, a9, a10, a11, Xt.enc, h23, sp23, h56, sp56, decX, xt_eta, hA, hB', hC, a6, p6, a7, a8, aG]; with_reducible rfl)); (case hs => (simp; done)); (case hR => (simp only [List.nil_append, List.cons_append]; rfl)); skip)
 | (apply evQ_no; (case had => assumption); (case hg => rfl); (case hb => (simp [gval, evEff, dstB, b3, b4, b5, a0, a1, a2, a3, a9, a10, a11, Xt.enc, h23, sp23, h56, sp56, decX, xt_eta, hA, hB', hC, a6, p6, a7, a8, aG]; with_reducible rfl)); (case hne => (simp; done)); (case hd => (simp [dstB]; done)); (case hR => (simp only [List.nil_append, List.cons_append]; rfl)); skip)
 | (apply evQ_split; (case hg => rfl); (case hb => (simp only [List.getElem?_cons_succ, List.getElem?_cons_zero]; rfl)); (case hv => ((fail_if_success (with_reducible exact (rfl : (_ : QR) = (AV.d (.val (.bool true)) _, none)))); (fail_if_success (with_reducible exact (rfl : (_ : QR) = (AV.d (.val (.bool false)) _, none)))); rfl)); (case hT => (simp only [List.set_cons_succ, List.set_cons_zero]; rfl)); (case hF => (simp only [List.set_cons_succ, List.set_cons_zero]; rfl)); skip)
 | (apply evOps_one; (case hg => rfl); (case h => (simp [evStep, evPure, b3, b4, b5, a0, a1, a2, a3, a9, a10, a11, Xt.enc, h23, sp23, h56, sp56, decX, xt_eta, hA, hB', hC, a6, p6, a7, a8, aG]; with_reducible rfl)); skip)
 | (apply evOps_yes; (case hg => rfl); (case hb => (simp [gval, dstB, b3, b4, b5, a0, a1, a2, a3, a9, a10, a11, Xt.enc, h23, sp23, h56, sp56, decX, xt_eta, hA, hB', hC, a6, p6, a7, a8, aG]; done)); (case h => (simp [evStep, evPure, b3, b4, b5, a0, a1, a2, a3, a9, a10, a11, Xt.enc, h23, sp23, h56, sp56, decX, xt_eta, hA, hB', hC, a6, p6, a7, a8, aG]; with_reducible rfl)); skip)
 | (apply evOps_no; (case hg => rfl); (case hb => (simp [gval, dstB, b3, b4, b5, a0, a1, a2, a3, a9, a10, a11, Xt.enc, h23, sp23, h56, sp56, decX, xt_eta, hA, hB', hC, a6, p6, a7, a8, aG]; with_reducible rfl)); (case hne => (simp; done)); (case hd => (simp [dstB]; done)); skip)
 | (apply evOps_big; (case hg => rfl); (case hd => (simp [dstB]; done)); (case hb => (simp [evBig, evStep, evPure, b3, b4, b5, a0, a1, a2, a3, a9, a10, a11, Xt.enc, h23, sp23, h56, sp56, decX, xt_eta, hA, hB', hC, a6, p6, a7, a8, aG]; with_reducible rfl)); skip)
 | (apply evOps_bigYes; (case hg => rfl); (case hgv => (simp [gval, dstB, b3, b4, b5, a0, a1, a2, a3, a9, a10, a11, Xt.enc, h23, sp23, h56, sp56, decX, xt_eta, hA, hB', hC, a6, p6, a7, a8, aG]; done)); (case hd => (simp [dstB]; done)); (case hb => (simp [evBig, evStep, evPure, b3, b4, b5, a0, a1, a2, a3, a9, a10, a11, Xt.enc, h23, sp23, h56, sp56, decX, xt_eta, hA, hB', hC, a6, p6, a7, a8, aG]; with_reducible rfl)); skip)
 | (apply evOps_split; (case _hg => rfl); (case _ht => rfl); (case hb => (simp [dstB]; with_reducible rfl)); (case hv => ((fail_if_success (with_reducible exact (rfl : (_ : AV) = AV.d (.val (.bool true)) _))); (fail_if_success (with_reducible exact (rfl : (_ : AV) = AV.d (.val (.bool false)) _))); rfl)); skip)
 | (apply WP_cond; (case hx => (simp [St.eval, dstB, b3, b4, b5, a0, a1, a2, a3, a9, a10, a11, Xt.enc, h23, sp23, h56, sp56, decX, xt_eta, hA, hB', hC, a6, p6, a7, a8, aG]; with_reducible rfl)); (case hv => rfl); skip))
            refine hY ((piecesX p q (l.take i) ++ [(partX e e.at' lo, false)])) ((partX e lo hi, true)) (piecesX p q (l.drop (i + 1))) _ _ (by rw [hsp, hE]; simp) (hI _ σ2 _ (fun x hx => by
              have q1 : ¬ x = 2006 := by omega
              simp [dstB, q1]) (by simp [dstB]; try omega) (by simpa using hinv)) ?_
            intro σ3 henv hc hown hinv'
            clear hinv
            have hinv := hinv'
            clear hinv'
            simp only [put_env', put_own', put_ctr', put_none', setOwn_env', setOwn_own', setOwn_ctr', setCtr_env', setCtr_own', setCtr_ctr', entry, entryEnv, entryOwn, inAV, scAV, inOB] at hc
            have c0 : σ3.env 0 = .yld s g := by rw [henv]; simp [dstB, a0]
            have c1 : σ3.env 1 = .rp 1003 g3 0 0 := by rw [henv]; simp [dstB, a1]
            have c2 : σ3.env 2 = .rp 1004 g4 0 0 := by rw [henv]; simp [dstB, a2]
            have c3 : σ3.env 3 = .rp 1005 g5 0 0 := by rw [henv]; simp [dstB, a3]
            have c9 : σ3.env 9 = .d (.sl n (l.map Xt.enc)) false := by rw [henv]; simp [dstB, a9]
            have c10 : σ3.env 10 = .d (vi l.length) true := by rw [henv]; simp [dstB, a10]
            have c11 : σ3.env 11 = .d (vi i) true := by rw [henv]; simp [dstB, a11]
            have c6 : ∃ g6 m6, σ3.env 6 = .rp 2006 g6 0 0 ∧ σ3.own 2006 = some (.var 24 g6 m6 [.d (vi e.at') false, .d (vi e.start) false, .d (vi e.len) false, .d (vb e.un) false]) := ⟨_, _, by rw [henv]; simp [dstB, a6, p6]; rfl, by rw [hown 2006 (by decide)]; simp [dstB, a6, p6]; try rfl⟩
            have c7 : σ3.env 7 = .d (vi lo) true := by rw [henv]; simp [dstB, a7]
            have c8 : σ3.env 8 = .d (vi hi) true := by rw [henv]; simp [dstB, a8]
            have cG : σ3.env 46 = .d (.val (.bool true)) true := by rw [henv]; simp [dstB, hA, hB', hC]
            obtain ⟨g6, m6, e6, o6⟩ := c6
            clear b3 b4 b5 a0 a1 a2 a3 a9 a10 a11 a6 p6 a7 a8 aG henv hown
            obtain ⟨b3, b4, b5⟩ := hB _ _ hinv
            have a0 := c0
            have a1 := c1
            have a2 := c2
            have a3 := c3
            have a9 := c9
            have a10 := c10
            have a11 := c11
            have a6 := e6
            have p6 := o6
            have a7 := c7
            have a8 := c8
            clear c0 c1 c2 c3 c9 c10 c11 e6 o6 c7 c8
            have aG := cG
            clear cG
            show evOps _ _ _ _ _ _ _ _ _ _ _
            repeat' (first
 | (intro h; first | (exfalso; exact Bool.noConfusion h) | (simp only [decide_eq_true_eq, decide_eq_false_iff_not] at h) | skip)
 | (apply evOps_fin; (case hf => (simp only [finGo, app1]; rfl)); skip)
 | refine WP_seq ?_
 | refine WP_scope ?_
 | refine WP_block ?_
 | refine WP_ret ?_
 | refine WP_skip ?_
 | refine WP_exit ?_
 | (apply WP_region; (case hl => rfl); (case hc => (simp only [put_env', put_own', put_ctr', put_none', setOwn_env', setOwn_own', setOwn_ctr', setCtr_env', setCtr_own', setCtr_ctr', entry, entryEnv, entryOwn, inAV, scAV, inOB]; rfl)); (case hc' => (conv => lhs; simp only [List.size_toArray, List.length_cons, List.length_nil, Nat.zero_add, Nat.reduceAdd, Nat.add_assoc])); skip)
 | (apply WP_draw; (case hl => rfl); (case hds => (simp only [List.map_cons, List.map_nil]; rfl)); (case hc => (simp only [put_env', put_own', put_ctr', put_none', setOwn_env', setOwn_own', setOwn_ctr', setCtr_env', setCtr_own', setCtr_ctr', entry, entryEnv, entryOwn, inAV, scAV, inOB]; rfl)); (case hc' => (conv => lhs; simp only [List.size_toArray, List.length_cons, List.length_nil, Nat.zero_add, Nat.reduceAdd, Nat.add_assoc])); (case hD => rfl); (case hb => kernel_rfl); (case h1 => (simp only [List.take_succ_cons, List.take_zero]; rfl)); (case h2 => (simp only [List.drop_succ_cons, List.drop_zero]; rfl)); (case h3 => (simp only [List.take_succ_cons, List.take_zero]; rfl)); intro had; skip)
 | refine evOps_nil ?_
 | refine evQ_nil ?_
 | (apply evQ_one; (case had => assumption); (case hg => rfl); (case hd => (simp [dstB]; done)); (case h => (simp [evQuiet, evCallQ, known, njk, AV.isJunk, Op.operands, Call.operands, evEff, evStep, evPure, b3, b4, b5, a0, a1, a2, a3, a9, a10, a11, Xt.enc, h23, sp23, h56, sp56, decX, xt_eta, hA, hB', hC, a6, p6, a7, a8, aG]; with_reducible rfl)); (case hs => (simp; done)); (case hR => (simp only [List.nil_append, List.cons_append]; rfl)); skip)
 | (apply evQ_yes; (case had => assumption); (case hg => rfl); (case hb => (simp [gval, evEff, dstB, b3, b4, b5, a0, a1, a2, a3, a9, a10, a11, Xt.enc, h23, sp23, h56, sp56, decX, xt_eta, hA, hB', hC, a6, p6, a7, a8, aG]; done)); (case hd => (simp [dstB]; done)); (case h => (simp [evQuiet, evCallQ, known, njk, AV.isJunk, Op.operands, Call.operands, evEff, evStep, evPure, b3, b4, b5, a0, a1, a2, a3, a9, a10, a11, Xt.enc, h23, sp23, h56, sp56, decX, xt_eta, hA, hB', hC, a6, p6, a7, a8, aG]; with_reducible rfl)); (case hs => (simp; done)); (case hR => (simp only [List.nil_append, List.cons_append]; rfl)); skip)
 | (apply evQ_no; (case had => assumption); (case hg => rfl); (case hb => (simp [gval, evEff, dstB, b3, b4, b5, a0, a1, a2, a3, a9, a10, a11, Xt.enc, h23, sp23, h56, sp56, decX, xt_eta, hA, hB', hC, a6, p6, a7, a8, aG]; with_reducible rfl)); (case hne => (simp; done)); (case hd => (simp [dstB]; done)); (case hR => (simp only [List.nil_append, List.cons_append]; rfl)); skip)
 | (apply evQ_split; (case hg => rfl); (case hb => (simp only [List.getElem?_cons_succ, List.getElem?_cons_zero]; rfl)); (case hv => ((fail_if_success (with_reducible exact (rfl : (_ : QR) = (AV.d (.val (.bool true)) _, none)))); (fail_if_success (with_reducible exact (rfl : (_ : QR) = (AV.d (.val (.bool false)) _, none)))); rfl)); (case hT => (simp only [List.set_cons_succ, List.set_cons_zero]; rfl)); (case hF => (simp only [List.set_cons_succ, List.set_cons_zero]; rfl)); skip)
 | (apply evOps_one; (case hg => rfl); (case h => (simp [evStep, evPure, b3, b4, b5, a0, a1, a2, a3, a9, a10, a11, Xt.enc, h23, sp23, h56, sp56, decX, xt_eta, hA, hB', hC, a6, p6, a7, a8, aG]; with_reducible rfl)); skip)
 | (apply evOps_yes; (case hg => rfl); (case hb => (simp [gval, dstB, b3, b4, b5, a0, a1, a2, a3, a9, a10, a11, Xt.enc, h23, sp23, h56, sp56, decX, xt_eta, hA, hB', hC, a6, p6, a7, a8, aG]; done)); (case h => (simp [evStep, evPure, b3, b4, b5, a0, a1, a2, a3, a9, a10, a11, Xt.enc, h23, sp23, h56, sp56, decX, xt_eta, hA, hB', hC, a6, p6, a7, a8, aG]; with_reducible rfl)); skip)
 | (apply evOps_no; (case hg => rfl); (case hb => (simp [gval, dstB, b3, b4, b5, a0, a1, a2, a3, a9, a10, a11, Xt.enc, h23, sp23, h56, sp56, decX, xt_eta, hA, hB', hC, a6, p6, a7, a8, aG]; with_reducible rfl)); (case hne => (simp; done)); (case hd => (simp [dstB]; done)); skip)
 | (apply evOps_big; (case hg => rfl); (case hd => (simp [dstB]; done)); (case hb => (simp [evBig, evStep, evPure, b3, b4, b5, a0, a1, a2, a3, a9, a10, a11, Xt.enc, h23, sp23, h56, sp56, decX, xt_eta, hA, hB', hC, a6, p6, a7, a8, aG]; with_reducible rfl)); skip)
 | (apply evOps_bigYes; (case hg => rfl); (case hgv => (simp [gval, dstB, b3, b4, b5, a0, a1, a2, a3, a9, a10, a11, Xt.enc, h23, sp23, h56, sp56, decX, xt_eta, hA, hB', hC, a6, p6, a7, a8, aG]; done)); (case hd => (simp [dstB]; done)); (case hb => (simp [evBig, evStep, evPure, b3, b4, b5, a0, a1, a2, a3, a9, a10, a11, Xt.enc, h23, sp23, h56, sp56, decX, xt_eta, hA, hB', hC, a6, p6, a7, a8, aG]; with_reducible rfl)); skip)
 | (apply evOps_split; (case _hg => rfl); (case _ht => rfl); (case hb => (simp [dstB]; with_reducible rfl)); (case hv => ((fail_if_success (with_reducible exact (rfl : (_ : AV) = AV.d (.val (.bool true)) _))); (fail_if_success (with_reducible exact (rfl : (_ : AV) = AV.d (.val (.bool false)) _))); rfl)); skip)
 | (apply WP_cond; (case hx => (simp [St.eval, dstB, b3, b4, b5, a0, a1, a2, a3, a9, a10, a11, Xt.enc, h23, sp23, h56, sp56, decX, xt_eta, hA, hB', hC, a6, p6, a7, a8, aG]; with_reducible rfl)); (case hv => rfl); skip))
            refine ⟨l.length - (i + 1), gcF [0, 1, 2, 3, 9, 10, 11] [] 2000 3000 _, by omega, gcF_forget _ _ _ _ _, i + 1, by omega, rfl, ?_, ?_, ?_, ?_, ?_, ?_, ?_, ?_, ?_⟩
            · simp [gcF, dstB]; omega
            · simp [gcF, restrictEnv, dstB, a0]
            · simp [gcF, restrictEnv, dstB, a1]
            · simp [gcF, restrictEnv, dstB, a2]
            · simp [gcF, restrictEnv, dstB, a3]
            · simp [gcF, restrictEnv, dstB, a9]
            · simp [gcF, restrictEnv, dstB, a10]
            · simp [gcF, restrictEnv, dstB, a11, hwi]
            · rw [htk, hE]
              refine hI _ σ3 _ (fun x hx => ?_) ?_ (by simpa using hinv)
              · have q1 : ¬ x = 2006 := by omega
                have q2 : ¬ 2000 ≤ x := by omega
                simp [gcF, dstB, q1, q2]
              · simp [gcF, dstB]; try omega
        · by_cases hC : max lo hi < endX e
          · have hE : piecesE p q e = [(partX e e.at' lo, false), (partX e (max lo hi) (endX e), false)] := by simp [piecesE, hlo, hhi, hA, hB', hC]
            repeat' (first
 | (intro h; first | (exfalso; exact Bool.noConfusion h) | (simp only [decide_eq_true_eq, decide_eq_false_iff_not] at h) | skip)
 | (apply evOps_fin; (case hf => (simp only [finGo, app1]; rfl)); skip)
 | refine WP_seq ?_
 | refine WP_scope ?_
 | refine WP_block ?_
 | refine WP_ret ?_
 | refine WP_skip ?_
 | refine WP_exit ?_
 | (apply WP_region; (case hl => rfl); (case hc => (simp only [put_env', put_own', put_ctr', put_none', setOwn_env', setOwn_own', setOwn_ctr', setCtr_env', setCtr_own', setCtr_ctr', entry, entryEnv, entryOwn, inAV, scAV, inOB]; rfl)); (case hc' => (conv => lhs; simp only [List.size_toArray, List.length_cons, List.length_nil, Nat.zero_add, Nat.reduceAdd, Nat.add_assoc])); skip)
 | (apply WP_draw; (case hl => rfl); (case hds => (simp only [List.map_cons, List.map_nil]; rfl)); (case hc => (simp only [put_env', put_own', put_ctr', put_none', setOwn_env', setOwn_own', setOwn_ctr', setCtr_env', setCtr_own', setCtr_ctr', entry, entryEnv, entryOwn, inAV, scAV, inOB]; rfl)); (case hc' => (conv => lhs; simp only [List.size_toArray, List.length_cons, List.length_nil, Nat.zero_add, Nat.reduceAdd, Nat.add_assoc])); (case hD => rfl); (case hb => kernel_rfl); (case h1 => (simp only [List.take_succ_cons, List.take_zero]; rfl)); (case h2 => (simp only [List.drop_succ_cons, List.drop_zero]; rfl)); (case h3 => (simp only [List.take_succ_cons, List.take_zero]; rfl)); intro had; skip)
 | refine evOps_nil ?_
 | refine evQ_nil ?_
 | (apply evQ_one; (case had => assumption); (case hg => rfl); (case hd => (simp [dstB]; done)); (case h => (simp [evQuiet, evCallQ, known, njk, AV.isJunk, Op.operands, Call.operands, evEff, evStep, evPure, b3, b4, b5, a0, a1, a2, a3, a9, a10, a11, Xt.enc, h23, sp23, h56, sp56, decX, xt_eta, hA, hB', hC, hlt, hlt', he, he2, hlo', hhi']; with_reducible rfl)); (case hs => (simp; done)); (case hR => (simp only [List.nil_append, List.cons_append]; rfl)); skip)
 | (apply evQ_yes; (case had => assumption); (case hg => rfl); (case hb => (simp [gval, evEff, dstB, b3, b4, b5, a0, a1, a2, a3, a9, a10, a11, Xt.enc, h23, sp23, h56, sp56, decX, xt_eta, hA, hB', hC, hlt, hlt', he, he2, hlo', hhi']; done)); (case hd => (simp [dstB]; done)); (case h => (simp [evQuiet, evCallQ, known, njk, AV.isJunk, Op.operands, Call.operands, evEff, evStep, evPure, b3, b4, b5, a0, a1, a2, a3, a9, a10, a11, Xt.enc, h23, sp23, h56, sp56, decX, xt_eta, hA, hB', hC, hlt, hlt', he, he2, hlo', hhi']; with_reducible rfl)); (case hs => (simp; done)); (case hR => (simp only [List.nil_append, List.cons_append]; rfl)); skip)
 | (apply evQ_no; (case had => assumption); (case hg => rfl); (case hb => (simp [gval, evEff, dstB, b3, b4, b5, a0, a1, a2, a3, a9, a10, a11, Xt.enc, h23, sp23, h56, sp56, decX, xt_eta, hA, hB', hC, hlt, hlt', he, he2, hlo', hhi']; with_reducible rfl)); (case hne => (simp; done)); (case hd => (simp [dstB]; done)); (case hR => (simp only [List.nil_append, List.cons_append]; rfl)); skip)
 | (apply evQ_split; (case hg => rfl); (case hb => (simp only [List.getElem?_cons_succ, List.getElem?_cons_zero]; rfl)); (case hv => ((fail_if_success (with_reducible exact (rfl : (_ : QR) = (AV.d (.val (.bool true)) _, none)))); (fail_if_success (with_reducible exact (rfl : (_ : QR) = (AV.d (.val (.bool false)) _, none)))); rfl)); (case hT => (simp only [List.set_cons_succ, List.set_cons_zero]; rfl)); (case hF => (simp only [List.set_cons_succ, List.set_cons_zero]; rfl)); skip)
 | (apply evOps_one; (case hg => rfl); (case h => (simp [evStep, evPure, b3, b4, b5, a0, a1, a2, a3, a9, a10, a11, Xt.enc, h23, sp23, h56, sp56, decX, xt_eta, hA, hB', hC, hlt, hlt', he, he2, hlo', hhi']; with_reducible rfl)); skip)
 | (apply evOps_yes; (case hg => rfl); (case hb => (simp [gval, dstB, b3, b4, b5, a0, a1, a2, a3, a9, a10, a11, Xt.enc, h23, sp23, h56, sp56, decX, xt_eta, hA, hB', hC, hlt, hlt', he, he2, hlo', hhi']; done)); (case h => (simp [evStep, evPure, b3, b4, b5, a0, a1, a2, a3, a9, a10, a11, Xt.enc, h23, sp23, h56, sp56, decX, xt_eta, hA, hB', hC, hlt, hlt', he, he2, hlo', hhi']; with_reducible rfl)); skip)
 | (apply evOps_no; (case hg => rfl); (case hb => (simp [gval, dstB, b3, b4, b5, a0, a1, a2, a3, a9, a10, a11, Xt.enc, h23, sp23, h56, sp56, decX, xt_eta, hA, hB', hC, hlt, hlt', he, he2, hlo', hhi']; with_reducible rfl)); (case hne => (simp; done)); (case hd => (simp [dstB]; done)); skip)
 | (apply evOps_big; (case hg => rfl); (case hd => (simp [dstB]; done)); (case hb => (simp [evBig, evStep, evPure, b3, b4, b5, a0, a1, a2, a3, a9, a10, a11, Xt.enc, h23, sp23, h56, sp56, decX, xt_eta, hA, hB', hC, hlt, hlt', he, he2, hlo', hhi']; with_reducible rfl)); skip)
 | (apply evOps_bigYes; (case hg => rfl); (case hgv => (simp [gval, dstB, b3, b4, b5, a0, a1, a2, a3, a9, a10, a11, Xt.enc, h23, sp23, h56, sp56, decX, xt_eta, hA, hB', hC, hlt, hlt', he, he2, hlo', hhi']; done)); (case hd => (simp [dstB]; done)); (case hb => (simp [evBig, evStep, evPure, b3, b4, b5, a0, a1, a2, a3, a9, a10, a11, Xt.enc, h23, sp23, h56, sp56, decX, xt_eta, hA, hB', hC, hlt, hlt', he, he2, hlo', hhi']; with_reducible rfl)); skip)
 | (apply evOps_split; (case _hg => rfl); (case _ht => rfl); (case hb => (simp [dstB]; with_reducible rfl)); (case hv => ((fail_if_success (with_reducible exact (rfl : (_ : AV) = AV.d (.val (.bool true)) _))); (fail_if_success (with_reducible exact (rfl : (_ : AV) = AV.d (.val (.bool false)) _))); rfl)); skip)
 | (apply WP_cond; (case hx => (simp [St.eval, dstB, b3, b4, b5, a0, a1, a2, a3, a9, a10, a11, Xt.enc, h23, sp23, h56, sp56, decX, xt_eta, hA, hB', hC, hlt, hlt', he, he2, hlo', hhi']; with_reducible rfl)); (case hv => rfl); skip))
            refine hY (piecesX p q (l.take i)) ((partX e e.at' lo, false)) ((partX e (max lo hi) (endX e), false) :: piecesX p q (l.drop (i + 1))) _ _ (by rw [hsp, hE]; simp) (hI _ σ1 _ (fun x hx => by
              have q1 : ¬ x = 2006 := by omega
              simp [dstB, q1]) (by simp [dstB]; try omega) (by simpa using hinv)) ?_
            intro σ2 henv hc hown hinv'
            clear hinv
            have hinv := hinv'
            clear hinv'
            simp only [put_env', put_own', put_ctr', put_none', setOwn_env', setOwn_own', setOwn_ctr', setCtr_env', setCtr_own', setCtr_ctr', entry, entryEnv, entryOwn, inAV, scAV, inOB] at hc
            have c0 : σ2.env 0 = .yld s g := by rw [henv]; simp [dstB, a0]
            have c1 : σ2.env 1 = .rp 1003 g3 0 0 := by rw [henv]; simp [dstB, a1]
            have c2 : σ2.env 2 = .rp 1004 g4 0 0 := by rw [henv]; simp [dstB, a2]
            have c3 : σ2.env 3 = .rp 1005 g5 0 0 := by rw [henv]; simp [dstB, a3]
            have c9 : σ2.env 9 = .d (.sl n (l.map Xt.enc)) false := by rw [henv]; simp [dstB, a9]
            have c10 : σ2.env 10 = .d (vi l.length) true := by rw [henv]; simp [dstB, a10]
            have c11 : σ2.env 11 = .d (vi i) true := by rw [henv]; simp [dstB, a11]
            have c6 : ∃ g6 m6, σ2.env 6 = .rp 2006 g6 0 0 ∧ σ2.own 2006 = some (.var 24 g6 m6 [.d (vi e.at') false, .d (vi e.start) false, .d (vi e.len) false, .d (vb e.un) false]) := ⟨_, _, by rw [henv]; simp [dstB]; rfl, by rw [hown 2006 (by decide)]; simp [dstB]; try rfl⟩
            have c7 : σ2.env 7 = .d (vi lo) true := by rw [henv]; simp [dstB]
            have c8 : σ2.env 8 = .d (vi hi) true := by rw [henv]; simp [dstB]
            have cG : σ2.env 33 = .d (.val (.bool true)) true := by rw [henv]; simp [dstB, hA, hB', hC]
            obtain ⟨g6, m6, e6, o6⟩ := c6
            clear b3 b4 b5 a0 a1 a2 a3 a9 a10 a11 henv hown
            obtain ⟨b3, b4, b5⟩ := hB _ _ hinv
            have a0 := c0
            have a1 := c1
            have a2 := c2
            have a3 := c3
            have a9 := c9
            have a10 := c10
            have a11 := c11
            have a6 := e6
            have p6 := o6
            have a7 := c7
            have a8 := c8
            clear c0 c1 c2 c3 c9 c10 c11 e6 o6 c7 c8
            have aG := cG
            clear cG
            show evOps _ _ _ _ _ _ _ _ _ _ _
            repeat' (first
 | (intro h; first | (exfalso; exact Bool.noConfusion h) | (simp only [decide_eq_true_eq, decide_eq_false_iff_not] at h) | skip)
 | (apply evOps_fin; (case hf => (simp only [finGo, app1]; rfl)); skip)
 | refine WP_seq ?_
 | refine WP_scope ?_
 | refine WP_block ?_
 | refine WP_ret ?_
 | refine WP_skip ?_
 | refine WP_exit ?_
 | (apply WP_region; (case hl => rfl); (case hc => (simp only [put_env', put_own', put_ctr', put_none', setOwn_env', setOwn_own', setOwn_ctr', setCtr_env', setCtr_own', setCtr_ctr', entry, entryEnv, entryOwn, inAV, scAV, inOB]; rfl)); (case hc' => (conv => lhs; simp only [List.size_toArray, List.length_cons, List.length_nil, Nat.zero_add, Nat.reduceAdd, Nat.add_assoc])); skip)
 | (apply WP_draw; (case hl => rfl); (case hds => (simp only [List.map_cons, List.map_nil]; rfl)); (case hc => (simp only [put_env', put_own', put_ctr', put_none', setOwn_env', setOwn_own', setOwn_ctr', setCtr_env', setCtr_own', setCtr_ctr', entry, entryEnv, entryOwn, inAV, scAV, inOB]; rfl)); (case hc' => (conv => lhs; simp only [List.size_toArray, List.length_cons, List.length_nil, Nat.zero_add, Nat.reduceAdd, Nat.add_assoc])); (case hD => rfl); (case hb => kernel_rfl); (case h1 => (simp only [List.take_succ_cons, List.take_zero]; rfl)); (case h2 => (simp only [List.drop_succ_cons, List.drop_zero]; rfl)); (case h3 => (simp only [List.take_succ_cons, List.take_zero]; rfl)); intro had; skip)
 | refine evOps_nil ?_
 | refine evQ_nil ?_
 | (apply evQ_one; (case had => assumption); (case hg => rfl); (case hd => (simp [dstB]; done)); (case h => (simp [evQuiet, evCallQ, known, njk, AV.isJunk, Op.operands, Call.operands, evEff, evStep, evPure, b3, b4, b5, a0, a1, a2, a3, a9, a10, a11, Xt.enc, h23, sp23, h56, sp56, decX, xt_eta, hA, hB', hC, a6, p6, a7, a8, aG]; with_reducible rfl)); (case hs => (simp; done)); (case hR => (simp only [List.nil_append, List.cons_append]; rfl)); skip)
 | (apply evQ_yes; (case had => assumption); (case hg => rfl); (case hb => (simp [gval, evEff, dstB, b3, b4, b5, a0, a1, a2, a3, a9, a10, a11, Xt.enc, h23, sp23, h56, sp56, decX, xt_eta, hA, hB', hC, a6, p6, a7, a8, aG]; done)); (case hd => (simp [dstB]; done)); (case h => (simp [evQuiet, evCallQ, known, njk, AV.isJunk, Op.operands, Call.operands, evEff, evStep, evPure, b3, b4, b5, a0, a1, a2, a3, a9, a10, a11, Xt.enc, h23, sp23, h56, sp56, decX, xt_eta, hA, hB', hC, a6, p6, a7, a8, aG]; with_reducible rfl)); (case hs => (simp; done)); (case hR => (simp only [List.nil_append, List.cons_append]; rfl)); skip)
 | (apply evQ_no; (case had => assumption); (case hg => rfl); (case hb => (simp [gval, evEff, dstB, b3, b4, b5, a0, a1, a2, a3, a9, a10, a11, Xt.enc, h23, sp23, h56, sp56, decX, xt_eta, hA, hB', hC, a6, p6, a7, a8, aG]; with_reducible rfl)); (case hne => (simp; done)); (case hd => (simp [dstB]; done)); (case hR => (simp only [List.nil_append, List.cons_append]; rfl)); skip)
 | (apply evQ_split; (case hg => rfl); (case hb => (simp only [List.getElem?_cons_succ, List.getElem?_cons_zero]; rfl)); (case hv => ((fail_if_success (with_reducible exact (rfl : (_ : QR) = (AV.d (.val (.bool true)) _, none)))); (fail_if_success (with_reducible exact (rfl : (_ : QR) = (AV.d (.val (.bool false)) _, none)))); rfl)); (case hT => (simp only [List.set_cons_succ, List.set_cons_zero]; rfl)); (case hF => (simp only [List.set_cons_succ, List.set_cons_zero]; rfl)); skip)
 | (apply evOps_one; (case hg => rfl); (case h => (simp [evStep, evPure, b3, b4, b5, a0, a1, a2, a3, a9, a10, a11, Xt.enc, h23, sp23, h56, sp56, decX, xt_eta, hA, hB', hC, a6, p6, a7, a8, aG]; with_reducible rfl)); skip)
 | (apply evOps_yes; (case hg => rfl); (case hb => (simp [gval, dstB, b3, b4, b5, a0, a1, a2, a3, a9, a10, a11, Xt.enc, h23, sp23, h56, sp56, decX, xt_eta, hA, hB', hC, a6, p6, a7, a8, aG]; done)); (case h => (simp [evStep, evPure, b3, b4, b5, a0, a1, a2, a3, a9, a10, a11, Xt.enc, h23, sp23, h56, sp56, decX, xt_eta, hA, hB', hC, a6, p6, a7, a8, aG]; with_reducible rfl)); skip)
 | (apply evOps_no; (case hg => rfl); (case hb => (simp [gval, dstB, b3, b4, b5, a0, a1, a2, a3, a9, a10, a11, Xt.enc, h23, sp23, h56, sp56, decX, xt_eta, hA, hB', hC, a6, p6, a7, a8, aG]; with_reducible rfl)); (case hne => (simp; done)); (case hd => (simp [dstB]; done)); skip)
 | (apply evOps_big; (case hg => rfl); (case hd => (simp [dstB]; done)); (case hb => (simp [evBig, evStep, evPure, b3, b4, b5, a0, a1, a2, a3, a9, a10, a11, Xt.enc, h23, sp23, h56, sp56, decX, xt_eta, hA, hB', hC, a6, p6, a7, a8, aG]; with_reducible rfl)); skip)
 | (apply evOps_bigYes; (case hg => rfl); (case hgv => (simp [gval, dstB, b3, b4, b5, a0, a1, a2, a3, a9, a10, a11, Xt.enc, h23, sp23, h56, sp56, decX, xt_eta, hA, hB', hC, a6, p6, a7, a8, aG]; done)); (case hd => (simp [dstB]; done)); (case hb => (simp [evBig, evStep, evPure, b3, b4, b5, a0, a1, a2, a3, a9, a10, a11, Xt.enc, h23, sp23, h56, sp56, decX, xt_eta, hA, hB', hC, a6, p6, a7, a8, aG]; with_reducible rfl)); skip)
 | (apply evOps_split; (case _hg => rfl); (case _ht => rfl); (case hb => (simp [dstB]; with_reducible rfl)); (case hv => ((fail_if_success (with_reducible exact (rfl : (_ : AV) = AV.d (.val (.bool true)) _))); (fail_if_success (with_reducible exact (rfl : (_ : AV) = AV.d (.val (.bool false)) _))); rfl)); skip)
 | (apply WP_cond; (case hx => (simp [St.eval, dstB, b3, b4, b5, a0, a1, a2, a3, a9, a10, a11, Xt.enc, h23, sp23, h56, sp56, decX, xt_eta, hA, hB', hC, a6, p6, a7, a8, aG]; with_reducible rfl)); (case hv => rfl); skip))
            refine hY ((piecesX p q (l.take i) ++ [(partX e e.at' lo, false)])) ((partX e (max lo hi) (endX e), false)) (piecesX p q (l.drop (i + 1))) _ _ (by rw [hsp, hE]; simp) (hI _ σ2 _ (fun x hx => by
              have q1 : ¬ x = 2006 := by omega
              simp [dstB, q1]) (by simp [dstB]; try omega) (by simpa using hinv)) ?_
            intro σ3 henv hc hown hinv'
            clear hinv
            have hinv := hinv'
            clear hinv'
            simp only [put_env', put_own', put_ctr', put_none', setOwn_env', setOwn_own', setOwn_ctr', setCtr_env', setCtr_own', setCtr_ctr', entry, entryEnv, entryOwn, inAV, scAV, inOB] at hc
            have c0 : σ3.env 0 = .yld s g := by rw [henv]; simp [dstB, a0]
            have c1 : σ3.env 1 = .rp 1003 g3 0 0 := by rw [henv]; simp [dstB, a1]
            have c2 : σ3.env 2 = .rp 1004 g4 0 0 := by rw [henv]; simp [dstB, a2]
            have c3 : σ3.env 3 = .rp 1005 g5 0 0 := by rw [henv]; simp [dstB, a3]
            have c9 : σ3.env 9 = .d (.sl n (l.map Xt.enc)) false := by rw [henv]; simp [dstB, a9]
            have c10 : σ3.env 10 = .d (vi l.length) true := by rw [henv]; simp [dstB, a10]
            have c11 : σ3.env 11 = .d (vi i) true := by rw [henv]; simp [dstB, a11]
            have c6 : ∃ g6 m6, σ3.env 6 = .rp 2006 g6 0 0 ∧ σ3.own 2006 = some (.var 24 g6 m6 [.d (vi e.at') false, .d (vi e.start) false, .d (vi e.len) false, .d (vb e.un) false]) := ⟨_, _, by rw [henv]; simp [dstB, a6, p6]; rfl, by rw [hown 2006 (by decide)]; simp [dstB, a6, p6]; try rfl⟩
            have c7 : σ3.env 7 = .d (vi lo) true := by rw [henv]; simp [dstB, a7]
            have c8 : σ3.env 8 = .d (vi hi) true := by rw [henv]; simp [dstB, a8]
            have cG : σ3.env 61 = .d (.val (.bool true)) true := by rw [henv]; simp [dstB, hA, hB', hC]
            obtain ⟨g6, m6, e6, o6⟩ := c6
            clear b3 b4 b5 a0 a1 a2 a3 a9 a10 a11 a6 p6 a7 a8 aG henv hown
            obtain ⟨b3, b4, b5⟩ := hB _ _ hinv
            have a0 := c0
            have a1 := c1
            have a2 := c2
            have a3 := c3
            have a9 := c9
            have a10 := c10
            have a11 := c11
            have a6 := e6
            have p6 := o6
            have a7 := c7
            have a8 := c8
            clear c0 c1 c2 c3 c9 c10 c11 e6 o6 c7 c8
            have aG := cG
            clear cG
            show evOps _ _ _ _ _ _ _ _ _ _ _
            repeat' (first
 | (intro h; first | (exfalso; exact Bool.noConfusion h) | (simp only [decide_eq_true_eq, decide_eq_false_iff_not] at h) | skip)
 | (apply evOps_fin; (case hf => (simp only [finGo, app1]; rfl)); skip)
 | refine WP_seq ?_
 | refine WP_scope ?_
 | refine WP_block ?_
 | refine WP_ret ?_
 | refine WP_skip ?_
 | refine WP_exit ?_
 | (apply WP_region; (case hl => rfl); (case hc => (simp only [put_env', put_own', put_ctr', put_none', setOwn_env', setOwn_own', setOwn_ctr', setCtr_env', setCtr_own', setCtr_ctr', entry, entryEnv, entryOwn, inAV, scAV, inOB]; rfl)); (case hc' => (conv => lhs; simp only [List.size_toArray, List.length_cons, List.length_nil, Nat.zero_add, Nat.reduceAdd, Nat.add_assoc])); skip)
 | (apply WP_draw; (case hl => rfl); (case hds => (simp only [List.map_cons, List.map_nil]; rfl)); (case hc => (simp only [put_env', put_own', put_ctr', put_none', setOwn_env', setOwn_own', setOwn_ctr', setCtr_env', setCtr_own', setCtr_ctr', entry, entryEnv, entryOwn, inAV, scAV, inOB]; rfl)); (case hc' => (conv => lhs; simp only [List.size_toArray, List.length_cons, List.length_nil, Nat.zero_add, Nat.reduceAdd, Nat.add_assoc])); (case hD => rfl); (case hb => kernel_rfl); (case h1 => (simp only [List.take_succ_cons, List.take_zero]; rfl)); (case h2 => (simp only [List.drop_succ_cons, List.drop_zero]; rfl)); (case h3 => (simp only [List.take_succ_cons, List.take_zero]; rfl)); intro had; skip)
 | refine evOps_nil ?_
 | refine evQ_nil ?_
 | (apply evQ_one; (case had => assumption); (case hg => rfl); (case hd => (simp [dstB]; done)); (case h => (simp [evQuiet, evCallQ, known, njk, AV.isJunk, Op.operands, Call.operands, evEff, evStep, evPure, b3, b4, b5, a0, a1, a2, a3, a9, a10, a11, Xt.enc, h23, sp23, h56, sp56, decX, xt_eta, hA, hB', hC, a6, p6, a7, a8, aG]; with_reducible rfl)); (case hs => (simp; done)); (case hR => (simp only [List.nil_append, List.cons_append]; rfl)); skip)
 | (apply evQ_yes; (case had => assumption); (case hg => rfl); (case hb => (simp [gval, evEff, dstB, b3, b4, b5, a0, a1, a2, a3, a9, a10, a11, Xt.enc, h23, sp23, h56, sp56, decX, xt_eta, hA, hB', hC, a6, p6, a7, a8, aG]; done)); (case hd => (simp [dstB]; done)); (case h => (simp [evQuiet, evCallQ, known, njk, AV.isJunk, Op.operands, Call.operands, evEff, evStep, evPure, b3, b4, b5, a0, a1, a2, a3, a9, a10, a11, Xt.enc, h23, sp23, h56, sp56, decX, xt_eta, hA, hB', hC, a6, p6, a7, a8, aG]; with_reducible rfl)); (case hs => (simp; done)); (case hR => (simp only [List.nil_append, List.cons_append]; rfl)); skip)
 | (apply evQ_no; (case had => assumption); (case hg => rfl); (case hb => (simp [gval, evEff, dstB, b3, b4, b5, a0, a1, a2, a3, a9, a10, a11, Xt.enc, h23, sp23, h56, sp56, decX, xt_eta, hA, hB', hC, a6, p6, a7, a8, aG]; with_reducible rfl)); (case hne => (simp; done)); (case hd => (simp [dstB]; done)); (case hR => (simp only [List.nil_append, List.cons_append]; rfl)); skip)
 | (apply evQ_split; (case hg => rfl); (case hb => (simp only [List.getElem?_cons_succ, List.getElem?_cons_zero]; rfl)); (case hv => ((fail_if_success (with_reducible exact (rfl : (_ : QR) = (AV.d (.val (.bool true)) _, none)))); (fail_if_success (with_reducible exact (rfl : (_ : QR) = (AV.d (.val (.bool false)) _, none)))); rfl)); (case hT => (simp only [List.set_cons_succ, List.set_cons_zero]; rfl)); (case hF => (simp only [List.set_cons_succ, List.set_cons_zero]; rfl)); skip)
 | (apply evOps_one; (case hg => rfl); (case h => (simp [evStep, evPure, b3, b4, b5, a0, a1, a2, a3, a9, a10, a11, Xt.enc, h23, sp23, h56, sp56, decX, xt_eta, hA, hB', hC, a6, p6, a7, a8, aG]; with_reducible rfl)); skip)
 | (apply evOps_yes; (case hg => rfl); (case hb => (simp [gval, dstB, b3, b4, b5, a0, a1, a2, a3, a9, a10, a11, Xt.enc, h23, sp23, h56, sp56, decX, xt_eta, hA, hB', hC, a6, p6, a7, a8, aG]; done)); (case h => (simp [evStep, evPure, b3, b4, b5, a0, a1, a2, a3, a9, a10, a11, Xt.enc, h23, sp23, h56, sp56, decX, xt_eta, hA, hB', hC, a6, p6, a7, a8, aG]; with_reducible rfl)); skip)
 | (apply evOps_no; (case hg => rfl); (case hb => (simp [gval, dstB, b3, b4, b5, a0, a1, a2, a3, a9, a10, a11, Xt.enc, h23, sp23, h56, sp56, decX, xt_eta, hA, hB', hC, a6, p6, a7, a8, aG]; with_reducible rfl)); (case hne => (simp; done)); (case hd => (simp [dstB]; done)); skip)
 | (apply evOps_big; (case hg => rfl); (case hd => (simp [dstB]; done)); (case hb => (simp [evBig, evStep, evPure, b3, b4, b5, a0, a1, a2, a3, a9, a10, a11, Xt.enc, h23, sp23, h56, sp56, decX, xt_eta, hA, hB', hC, a6, p6, a7, a8, aG]; with_reducible rfl)); skip)
 | (apply evOps_bigYes; (case hg => rfl); (case hgv => (simp [gval, dstB, b3, b4, b5, a0, a1, a2, a3, a9, a10, a11, Xt.enc, h23, sp23, h56, sp56, decX, xt_eta, hA, hB', hC, a6, p6, a7, a8, aG]; done)); (case hd => (simp [dstB]; done)); (case hb => (simp [evBig, evStep, evPure, b3, b4, b5, a0, a1, a2, a3, a9, a10, a11, Xt.enc, h23, sp23, h56, sp56, decX, xt_eta, hA, hB', hC, a6, p6, a7, a8, aG]; with_reducible rfl)); skip)
 | (apply evOps_split; (case _hg => rfl); (case _ht => rfl); (case hb => (simp [dstB]; with_reducible rfl)); (case hv => ((fail_if_success (with_reducible exact (rfl : (_ : AV) = AV.d (.val (.bool true)) _))); (fail_if_success (with_reducible exact (rfl : (_ : AV) = AV.d (.val (.bool false)) _))); rfl)); skip)
 | (apply WP_cond; (case hx => (simp [St.eval, dstB, b3, b4, b5, a0, a1, a2, a3, a9, a10, a11, Xt.enc, h23, sp23, h56, sp56, decX, xt_eta, hA, hB', hC, a6, p6, a7, a8, aG]; with_reducible rfl)); (case hv => rfl); skip))
            refine ⟨l.length - (i + 1), gcF [0, 1, 2, 3, 9, 10, 11] [] 2000 3000 _, by omega, gcF_forget _ _ _ _ _, i + 1, by omega, rfl, ?_, ?_, ?_, ?_, ?_, ?_, ?_, ?_, ?_⟩
            · simp [gcF, dstB]; omega
            · simp [gcF, restrictEnv, dstB, a0]
            · simp [gcF, restrictEnv, dstB, a1]
            · simp [gcF, restrictEnv, dstB, a2]
            · simp [gcF, restrictEnv, dstB, a3]
            · simp [gcF, restrictEnv, dstB, a9]
            · simp [gcF, restrictEnv, dstB, a10]
            · simp [gcF, restrictEnv, dstB, a11, hwi]
            · rw [htk, hE]
              refine hI _ σ3 _ (fun x hx => ?_) ?_ (by simpa using hinv)
              · have q1 : ¬ x = 2006 := by omega
                have q2 : ¬ 2000 ≤ x := by omega
                simp [gcF, dstB, q1, q2]
              · simp [gcF, dstB]; try omega
          · have hE : piecesE p q e = [(partX e e.at' lo, false)] := by simp [piecesE, hlo, hhi, hA, hB', hC]
            repeat' (first
 | (intro h; first | (exfalso; exact Bool.noConfusion h) | (simp only [decide_eq_true_eq, decide_eq_false_iff_not] at h) | skip)
 | (apply evOps_fin; (case hf => (simp only [finGo, app1]; rfl)); skip)
 | refine WP_seq ?_
 | refine WP_scope ?_
 | refine WP_block ?_
 | refine WP_ret ?_
 | refine WP_skip ?_
 | refine WP_exit ?_
 | (apply WP_region; (case hl => rfl); (case hc => (simp only [put_env', put_own', put_ctr', put_none', setOwn_env', setOwn_own', setOwn_ctr', setCtr_env', setCtr_own', setCtr_ctr', entry, entryEnv, entryOwn, inAV, scAV, inOB]; rfl)); (case hc' => (conv => lhs; simp only [List.size_toArray, List.length_cons, List.length_nil, Nat.zero_add, Nat.reduceAdd, Nat.add_assoc])); skip)
 | (apply WP_draw; (case hl => rfl); (case hds => (simp only [List.map_cons, List.map_nil]; rfl)); (case hc => (simp only [put_env', put_own', put_ctr', put_none', setOwn_env', setOwn_own', setOwn_ctr', setCtr_env', setCtr_own', setCtr_ctr', entry, entryEnv, entryOwn, inAV, scAV, inOB]; rfl)); (case hc' => (conv => lhs; simp only [List.size_toArray, List.length_cons, List.length_nil, Nat.zero_add, Nat.reduceAdd, Nat.add_assoc])); (case hD => rfl); (case hb => kernel_rfl); (case h1 => (simp only [List.take_succ_cons, List.take_zero]; rfl)); (case h2 => (simp only [List.drop_succ_cons, List.drop_zero]; rfl)); (case h3 => (simp only [List.take_succ_cons, List.take_zero]; rfl)); intro had; skip)
 | refine evOps_nil ?_
 | refine evQ_nil ?_
 | (apply evQ_one; (case had => assumption); (case hg => rfl); (case hd => (simp [dstB]; done)); (case h => (simp [evQuiet, evCallQ, known, njk, AV.isJunk, Op.operands, Call.operands, evEff, evStep, evPure, b3, b4, b5, a0, a1, a2, a3, a9, a10, a11, Xt.enc, h23, sp23, h56, sp56, decX, xt_eta, hA, hB', hC, hlt, hlt', he, he2, hlo', hhi']; with_reducible rfl)); (case hs => (simp; done)); (case hR => (simp only [List.nil_append, List.cons_append]; rfl)); skip)
 | (apply evQ_yes; (case had => assumption); (case hg => rfl); (case hb => (simp [gval, evEff, dstB, b3, b4, b5, a0, a1, a2, a3, a9, a10, a11, Xt.enc, h23, sp23, h56, sp56, decX, xt_eta, hA, hB', hC, hlt, hlt', he, he2, hlo', hhi']; done)); (case hd => (simp [dstB]; done)); (case h => (simp [evQuiet, evCallQ, known, njk, AV.isJunk, Op.operands, Call.operands, evEff, evStep, evPure, b3, b4, b5, a0, a1, a2, a3, a9, a10, a11, Xt.enc, h23, sp23, h56, sp56, decX, xt_eta, hA, hB', hC, hlt, hlt', he, he2, hlo', hhi']; with_reducible rfl)); (case hs => (simp; done)); (case hR => (simp only [List.nil_append, List.cons_append]; rfl)); skip)
 | (apply evQ_no; (case had => assumption); (case hg => rfl); (case hb => (simp [gval, evEff, dstB, b3, b4, b5, a0, a1, a2, a3, a9, a10, a11, Xt.enc, h23, sp23, h56, sp56, decX, xt_eta, hA, hB', hC, hlt, hlt', he, he2, hlo', hhi']; with_reducible rfl)); (case hne => (simp; done)); (case hd => (simp [dstB]; done)); (case hR => (simp only [List.nil_append, List.cons_append]; rfl)); skip)
 | (apply evQ_split; (case hg => rfl); (case hb => (simp only [List.getElem?_cons_succ, List.getElem?_cons_zero]; rfl)); (case hv => ((fail_if_success (with_reducible exact (rfl : (_ : QR) = (AV.d (.val (.bool true)) _, none)))); (fail_if_success (with_reducible exact (rfl : (_ : QR) = (AV.d (.val (.bool false)) _, none)))); rfl)); (case hT => (simp only [List.set_cons_succ, List.set_cons_zero]; rfl)); (case hF => (simp only [List.set_cons_succ, List.set_cons_zero]; rfl)); skip)
 | (apply evOps_one; (case hg => rfl); (case h => (simp [evStep, evPure, b3, b4, b5, a0, a1, a2, a3, a9, a10, a11, Xt.enc, h23, sp23, h56, sp56, decX, xt_eta, hA, hB', hC, hlt, hlt', he, he2, hlo', hhi']; with_reducible rfl)); skip)
 | (apply evOps_yes; (case hg => rfl); (case hb => (simp [gval, dstB, b3, b4, b5, a0, a1, a2, a3, a9, a10, a11, Xt.enc, h23, sp23, h56, sp56, decX, xt_eta, hA, hB', hC, hlt, hlt', he, he2, hlo', hhi']; done)); (case h => (simp [evStep, evPure, b3, b4, b5, a0, a1, a2, a3, a9, a10, a11, Xt.enc, h23, sp23, h56, sp56, decX, xt_eta, hA, hB', hC, hlt, hlt', he, he2, hlo', hhi']; with_reducible rfl)); skip)
 | (apply evOps_no; (case hg => rfl); (case hb => (simp [gval, dstB, b3, b4, b5, a0, a1, a2, a3, a9, a10, a11, Xt.enc, h23, sp23, h56, sp56, decX, xt_eta, hA, hB', hC, hlt, hlt', he, he2, hlo', hhi']; with_reducible rfl)); (case hne => (simp; done)); (case hd => (simp [dstB]; done)); skip)
 | (apply evOps_big; (case hg => rfl); (case hd => (simp [dstB]; done)); (case hb => (simp [evBig, evStep, evPure, b3, b4, b5, a0, a1, a2, a3, a9, a10, a11, Xt.enc, h23, sp23, h56, sp56, decX, xt_eta, hA, hB', hC, hlt, hlt', he, he2, hlo', hhi']; with_reducible rfl)); skip)
 | (apply evOps_bigYes; (case hg => rfl); (case hgv => (simp [gval, dstB, b3, b4, b5, a0, a1, a2, a3, a9, a10, a11, Xt.enc, h23, sp23, h56, sp56, decX, xt_eta, hA, hB', hC, hlt, hlt', he, he2, hlo', hhi']; done)); (case hd => (simp [dstB]; done)); (case hb => (simp [evBig, evStep, evPure, b3, b4, b5, a0, a1, a2, a3, a9, a10, a11, Xt.enc, h23, sp23, h56, sp56, decX, xt_eta, hA, hB', hC, hlt, hlt', he, he2, hlo', hhi']; with_reducible rfl)); skip)
 | (apply evOps_split; (case _hg => rfl); (case _ht => rfl); (case hb => (simp [dstB]; with_reducible rfl)); (case hv => ((fail_if_success (with_reducible exact (rfl : (_ : AV) = AV.d (.val (.bool true)) _))); (fail_if_success (with_reducible exact (rfl : (_ : AV) = AV.d (.val (.bool false)) _))); rfl)); skip)
 | (apply WP_cond; (case hx => (simp [St.eval, dstB, b3, b4, b5, a0, a1, a2, a3, a9, a10, a11, Xt.enc, h23, sp23, h56, sp56, decX, xt_eta, hA, hB', hC, hlt, hlt', he, he2, hlo', hhi']; with_reducible rfl)); (case hv => rfl); skip))
            refine hY (piecesX p q (l.take i)) ((partX e e.at' lo, false)) (piecesX p q (l.drop (i + 1))) _ _ (by rw [hsp, hE]; simp) (hI _ σ1 _ (fun x hx => by
              have q1 : ¬ x = 2006 := by omega
              simp [dstB, q1]) (by simp [dstB]; try omega) (by simpa using hinv)) ?_
            intro σ2 henv hc hown hinv'
            clear hinv
            have hinv := hinv'
            clear hinv'
            simp only [put_env', put_own', put_ctr', put_none', setOwn_env', setOwn_own', setOwn_ctr', setCtr_env', setCtr_own', setCtr_ctr', entry, entryEnv, entryOwn, inAV, scAV, inOB] at hc
            have c0 : σ2.env 0 = .yld s g := by rw [henv]; simp [dstB, a0]
            have c1 : σ2.env 1 = .rp 1003 g3 0 0 := by rw [henv]; simp [dstB, a1]
            have c2 : σ2.env 2 = .rp 1004 g4 0 0 := by rw [henv]; simp [dstB, a2]
            have c3 : σ2.env 3 = .rp 1005 g5 0 0 := by rw [henv]; simp [dstB, a3]
            have c9 : σ2.env 9 = .d (.sl n (l.map Xt.enc)) false := by rw [henv]; simp [dstB, a9]
            have c10 : σ2.env 10 = .d (vi l.length) true := by rw [henv]; simp [dstB, a10]
            have c11 : σ2.env 11 = .d (vi i) true := by rw [henv]; simp [dstB, a11]
            have c6 : ∃ g6 m6, σ2.env 6 = .rp 2006 g6 0 0 ∧ σ2.own 2006 = some (.var 24 g6 m6 [.d (vi e.at') false, .d (vi e.start) false, .d (vi e.len) false, .d (vb e.un) false]) := ⟨_, _, by rw [henv]; simp [dstB]; rfl, by rw [hown 2006 (by decide)]; simp [dstB]; try rfl⟩
            have c7 : σ2.env 7 = .d (vi lo) true := by rw [henv]; simp [dstB]
            have c8 : σ2.env 8 = .d (vi hi) true := by rw [henv]; simp [dstB]
            have cG : σ2.env 33 = .d (.val (.bool true)) true := by rw [henv]; simp [dstB, hA, hB', hC]
            obtain ⟨g6, m6, e6, o6⟩ := c6
            clear b3 b4 b5 a0 a1 a2 a3 a9 a10 a11 henv hown
            obtain ⟨b3, b4, b5⟩ := hB _ _ hinv
            have a0 := c0
            have a1 := c1
            have a2 := c2
            have a3 := c3
            have a9 := c9
            have a10 := c10
            have a11 := c11
            have a6 := e6
            have p6 := o6
            have a7 := c7
            have a8 := c8
            clear c0 c1 c2 c3 c9 c10 c11 e6 o6 c7 c8
            have aG := cG
            clear cG
            show evOps _ _ _ _ _ _ _ _ _ _ _
            repeat' (first
 | (intro h; first | (exfalso; exact Bool.noConfusion h) | (simp only [decide_eq_true_eq, decide_eq_false_iff_not] at h) | skip)
 | (apply evOps_fin; (case hf => (simp only [finGo, app1]; rfl)); skip)
 | refine WP_seq ?_
 | refine WP_scope ?_
 | refine WP_block ?_
 | refine WP_ret ?_
 | refine WP_skip ?_
 | refine WP_exit ?_
 | (apply WP_region; (case hl => rfl); (case hc => (simp only [put_env', put_own', put_ctr', put_none', setOwn_env', setOwn_own', setOwn_ctr', setCtr_env', setCtr_own', setCtr_ctr', entry, entryEnv, entryOwn, inAV, scAV, inOB]; rfl)); (case hc' => (conv => lhs; simp only [List.size_toArray, List.length_cons, List.length_nil, Nat.zero_add, Nat.reduceAdd, Nat.add_assoc])); skip)
 | (apply WP_draw; (case hl => rfl); (case hds => (simp only [List.map_cons, List.map_nil]; rfl)); (case hc => (simp only [put_env', put_own', put_ctr', put_none', setOwn_env', setOwn_own', setOwn_ctr', setCtr_env', setCtr_own', setCtr_ctr', entry, entryEnv, entryOwn, inAV, scAV, inOB]; rfl)); (case hc' => (conv => lhs; simp only [List.size_toArray, List.length_cons, List.length_nil, Nat.zero_add, Nat.reduceAdd, Nat.add_assoc])); (case hD => rfl); (case hb => kernel_rfl); (case h1 => (simp only [List.take_succ_cons, List.take_zero]; rfl)); (case h2 => (simp only [List.drop_succ_cons, List.drop_zero]; rfl)); (case h3 => (simp only [List.take_succ_cons, List.take_zero]; rfl)); intro had; skip)
 | refine evOps_nil ?_
 | refine evQ_nil ?_
 | (apply evQ_one; (case had => assumption); (case hg => rfl); (case hd => (simp [dstB]; done)); (case h => (simp [evQuiet, evCallQ, known, njk, AV.isJunk, Op.operands, Call.operands, evEff, evStep, evPure, b3, b4, b5, a0, a1, a2, a3, a9, a10, a11, Xt.enc, h23, sp23, h56, sp56, decX, xt_eta, hA, hB', hC, a6, p6, a7, a8, aG]; with_reducible rfl)); (case hs => (simp; done)); (case hR => (simp only [List.nil_append, List.cons_append]; rfl)); skip)
 | (apply evQ_yes; (case had => assumption); (case hg => rfl); (case hb => (simp [gval, evEff, dstB, b3, b4, b5, a0, a1, a2, a3, a9, a10, a11, Xt.enc, h23, sp23, h56, sp56, decX, xt_eta, hA, hB', hC, a6, p6, a7, a8, aG]; done)); (case hd => (simp [dstB]; done)); (case h => (simp [evQuiet, evCallQ, known, njk, AV.isJunk, Op.operands, Call.operands, evEff, evStep, evPure, b3, b4, b5, a0, a1, a2, a3, a9, a10, a11, Xt.enc, h23, sp23, h56, sp56, decX, xt_eta, hA, hB', hC, a6, p6, a7, a8, aG]; with_reducible rfl)); (case hs => (simp; done)); (case hR => (simp only [List.nil_append, List.cons_append]; rfl)); skip)
 | (apply evQ_no; (case had => assumption); (case hg => rfl); (case hb => (simp [gval, evEff, dstB, b3, b4, b5, a0, a1, a2, a3, a9, a10, a11, Xt.enc, h23, sp23, h56, sp56, decX, xt_eta, hA, hB', hC, a6, p6, a7, a8, aG]; with_reducible rfl)); (case hne => (simp; done)); (case hd => (simp [dstB]; done)); (case hR => (simp only [List.nil_append, List.cons_append]; rfl)); skip)
 | (apply evQ_split; (case hg => rfl); (case hb => (simp only [List.getElem?_cons_succ, List.getElem?_cons_zero]; rfl)); (case hv => ((fail_if_success (with_reducible exact (rfl : (_ : QR) = (AV.d (.val (.bool true)) _, none)))); (fail_if_success (with_reducible exact (rfl : (_ : QR) = (AV.d (.val (.bool false)) _, none)))); rfl)); (case hT => (simp only [List.set_cons_succ, List.set_cons_zero]; rfl)); (case hF => (simp only [List.set_cons_succ, List.set_cons_zero]; rfl)); skip)
 | (apply evOps_one; (case hg => rfl); (case h => (simp [evStep, evPure, b3, b4, b5, a0, a1, a2, a3, a9, a10, a11, Xt.enc, h23, sp23, h56, sp56, decX, xt_eta, hA, hB', hC, a6, p6, a7, a8, aG]; with_reducible rfl)); skip)
 | (apply evOps_yes; (case hg => rfl); (case hb => (simp [gval, dstB, b3, b4, b5, a0, a1, a2, a3, a9, a10, a11, Xt.enc, h23, sp23, h56, sp56, decX, xt_eta, hA, hB', hC, a6, p6, a7, a8, aG]; done)); (case h => (simp [evStep, evPure, b3, b4, b5, a0, a1, a2, a3, a9, a10, a11, Xt.enc, h23, sp23, h56, sp56, decX, xt_eta, hA, hB', hC, a6, p6, a7, a8, aG]; with_reducible rfl)); skip)
 | (apply evOps_no; (case hg => rfl); (case hb => (simp [gval, dstB, b3, b4, b5, a0, a1, a2, a3, a9, a10, a11, Xt.enc, h23, sp23, h56, sp56, decX, xt_eta, hA, hB', hC, a6, p6, a7, a8, aG]; with_reducible rfl)); (case hne => (simp; done)); (case hd => (simp [dstB]; done)); skip)
 | (apply evOps_big; (case hg => rfl); (case hd => (simp [dstB]; done)); (case hb => (simp [evBig, evStep, evPure, b3, b4, b5, a0, a1, a2, a3, a9, a10, a11, Xt.enc, h23, sp23, h56, sp56, decX, xt_eta, hA, hB', hC, a6, p6, a7, a8, aG]; with_reducible rfl)); skip)
 | (apply evOps_bigYes; (case hg => rfl); (case hgv => (simp [gval, dstB, b3, b4, b5, a0, a1, a2, a3, a9, a10, a11, Xt.enc, h23, sp23, h56, sp56, decX, xt_eta, hA, hB', hC, a6, p6, a7, a8, aG]; done)); (case hd => (simp [dstB]; done)); (case hb => (simp [evBig, evStep, evPure, b3, b4, b5, a0, a1, a2, a3, a9, a10, a11, Xt.enc, h23, sp23, h56, sp56, decX, xt_eta, hA, hB', hC, a6, p6, a7, a8, aG]; with_reducible rfl)); skip)
 | (apply evOps_split; (case _hg => rfl); (case _ht => rfl); (case hb => (simp [dstB]; with_reducible rfl)); (case hv => ((fail_if_success (with_reducible exact (rfl : (_ : AV) = AV.d (.val (.bool true)) _))); (fail_if_success (with_reducible exact (rfl : (_ : AV) = AV.d (.val (.bool false)) _))); rfl)); skip)
 | (apply WP_cond; (case hx => (simp [St.eval, dstB, b3, b4, b5, a0, a1, a2, a3, a9, a10, a11, Xt.enc, h23, sp23, h56, sp56, decX, xt_eta, hA, hB', hC, a6, p6, a7, a8, aG]; with_reducible rfl)); (case hv => rfl); skip))
            refine ⟨l.length - (i + 1), gcF [0, 1, 2, 3, 9, 10, 11] [] 2000 3000 _, by omega, gcF_forget _ _ _ _ _, i + 1, by omega, rfl, ?_, ?_, ?_, ?_, ?_, ?_, ?_, ?_, ?_⟩
            · simp [gcF, dstB]; omega
            · simp [gcF, restrictEnv, dstB, a0]
            · simp [gcF, restrictEnv, dstB, a1]
            · simp [gcF, restrictEnv, dstB, a2]
            · simp [gcF, restrictEnv, dstB, a3]
            · simp [gcF, restrictEnv, dstB, a9]
            · simp [gcF, restrictEnv, dstB, a10]
            · simp [gcF, restrictEnv, dstB, a11, hwi]
            · rw [htk, hE]
              refine hI _ σ2 _ (fun x hx => ?_) ?_ (by simpa using hinv)
              · have q1 : ¬ x = 2006 := by omega
                have q2 : ¬ 2000 ≤ x := by omega
                simp [gcF, dstB, q1, q2]
              · simp [gcF, dstB]; try omega
      · by_cases hB' : lo < hi
        · by_cases hC : max lo hi < endX e
          · have hE : piecesE p q e = [(partX e lo hi, true), (partX e (max lo hi) (endX e), false)] := by simp [piecesE, hlo, hhi, hA, hB', hC]
            repeat' (first
 | (intro h; first | (exfalso; exact Bool.noConfusion h) | (simp only [decide_eq_true_eq, decide_eq_false_iff_not] at h) | skip)
 | (apply evOps_fin; (case hf => (simp only [finGo, app1]; rfl)); skip)
 | refine WP_seq ?_
 | refine WP_scope ?_
 | refine WP_block ?_
 | refine WP_ret ?_
 | refine WP_skip ?_
 | refine WP_exit ?_
 | (apply WP_region; (case hl => rfl); (case hc => (simp only [put_env', put_own', put_ctr', put_none', setOwn_env', setOwn_own', setOwn_ctr', setCtr_env', setCtr_own', setCtr_ctr', entry, entryEnv, entryOwn, inAV, scAV, inOB]; rfl)); (case hc' => (conv => lhs; simp only [List.size_toArray, List.length_cons, List.length_nil, Nat.zero_add, Nat.reduceAdd, Nat.add_assoc])); skip)
 | (apply WP_draw; (case hl => rfl); (case hds => (simp only [List.map_cons, List.map_nil]; rfl)); (case hc => (simp only [put_env', put_own', put_ctr', put_none', setOwn_env', setOwn_own', setOwn_ctr', setCtr_env', setCtr_own', setCtr_ctr', entry, entryEnv, entryOwn, inAV, scAV, inOB]; rfl)); (case hc' => (conv => lhs; simp only [List.size_toArray, List.length_cons, List.length_nil, Nat.zero_add, Nat.reduceAdd, Nat.add_assoc])); (case hD => rfl); (case hb => kernel_rfl); (case h1 => (simp only [List.take_succ_cons, List.take_zero]; rfl)); (case h2 => (simp only [List.drop_succ_cons, List.drop_zero]; rfl)); (case h3 => (simp only [List.take_succ_cons, List.take_zero]; rfl)); intro had; skip)
 | refine evOps_nil ?_
 | refine evQ_nil ?_
 | (apply evQ_one; (case had => assumption); (case hg => rfl); (case hd => (simp [dstB]; done)); (case h => (simp [evQuiet, evCallQ, known, njk, AV.isJunk, Op.operands, Call.operands, evEff, evStep, evPure, b3, b4, b5, a0, a1, a2, a3, a9, a10, a11, Xt.enc, h23, sp23, h56, sp56, decX, xt_eta, hA, hB', hC, hlt, hlt', he, he2, hlo', hhi']; with_reducible rfl)); (case hs => (simp; done)); (case hR => (simp only [List.nil_append, List.cons_append]; rfl)); skip)
 | (apply evQ_yes; (case had => assumption); (case hg => rfl); (case hb => (simp [gval, evEff, dstB, b3, b4, b5, a0, a1, a2, a3, a9, a10, a11, Xt.enc, h23, sp23, h56, sp56, decX, xt_eta, hA, hB', hC, hlt, hlt', he, he2, hlo', hhi']; done)); (case hd => (simp [dstB]; done)); (case h => (simp [evQuiet, evCallQ, known, njk, AV.isJunk, Op.operands, Call.operands, evEff, evStep, evPure, b3, b4, b5, a0, a1, a2, a3, a9, a10, a11, Xt.enc, h23, sp23, h56, sp56, decX, xt_eta, hA, hB', hC, hlt, hlt', he, he2, hlo', hhi']; with_reducible rfl)); (case hs => (simp; done)); (case hR => (simp only [List.nil_append, List.cons_append]; rfl)); skip)
 | (apply evQ_no; (case had => assumption); (case hg => rfl); (case hb => (simp [gval, evEff, dstB, b3, b4, b5, a0, a1, a2, a3, a9, a10, a11, Xt.enc, h23, sp23, h56, sp56, decX, xt_eta, hA, hB', hC, hlt, hlt', he, he2, hlo', hhi']; with_reducible rfl)); (case hne => (simp; done)); (case hd => (simp [dstB]; done)); (case hR => (simp only [List.nil_append, List.cons_append]; rfl)); skip)
 | (apply evQ_split; (case hg => rfl); (case hb => (simp only [List.getElem?_cons_succ, List.getElem?_cons_zero]; rfl)); (case hv => ((fail_if_success (with_reducible exact (rfl : (_ : QR) = (AV.d (.val (.bool true)) _, none)))); (fail_if_success (with_reducible exact (rfl : (_ : QR) = (AV.d (.val (.bool false)) _, none)))); rfl)); (case hT => (simp only [List.set_cons_succ, List.set_cons_zero]; rfl)); (case hF => (simp only [List.set_cons_succ, List.set_cons_zero]; rfl)); skip)
 | (apply evOps_one; (case hg => rfl); (case h => (simp [evStep, evPure, b3, b4, b5, a0, a1, a2, a3, a9, a10, a11, Xt.enc, h23, sp23, h56, sp56, decX, xt_eta, hA, hB', hC, hlt, hlt', he, he2, hlo', hhi']; with_reducible rfl)); skip)
 | (apply evOps_yes; (case hg => rfl); (case hb => (simp [gval, dstB, b3, b4, b5, a0, a1, a2, a3, a9, a10, a11, Xt.enc, h23, sp23, h56, sp56, decX, xt_eta, hA, hB', hC, hlt, hlt', he, he2, hlo', hhi']; done)); (case h => (simp [evStep, evPure, b3, b4, b5, a0, a1, a2, a3, a9, a10, a11, Xt.enc, h23, sp23, h56, sp56, decX, xt_eta, hA, hB', hC, hlt, hlt', he, he2, hlo', hhi']; with_reducible rfl)); skip)
 | (apply evOps_no; (case hg => rfl); (case hb => (simp [gval, dstB, b3, b4, b5, a0, a1, a2, a3, a9, a10, a11, Xt.enc, h23, sp23, h56, sp56, decX, xt_eta, hA, hB', hC, hlt, hlt', he, he2, hlo', hhi']; with_reducible rfl)); (case hne => (simp; done)); (case hd => (simp [dstB]; done)); skip)
 | (apply evOps_big; (case hg => rfl); (case hd => (simp [dstB]; done)); (case hb => (simp [evBig, evStep, evPure, b3, b4, b5, a0, a1, a2, a3, a9, a10, a11, Xt.enc, h23, sp23, h56, sp56, decX, xt_eta, hA, hB', hC, hlt, hlt', he, he2, hlo', hhi']; with_reducible rfl)); skip)
 | (apply evOps_bigYes; (case hg => rfl); (case hgv => (simp [gval, dstB, b3, b4, b5, a0, a1, a2, a3, a9, a10, a11, Xt.enc, h23, sp23, h56, sp56, decX, xt_eta, hA, hB', hC, hlt, hlt', he, he2, hlo', hhi']; done)); (case hd => (simp [dstB]; done)); (case hb => (simp [evBig, evStep, evPure, b3, b4, b5, a0, a1, a2, a3, a9, a10, a11, Xt.enc, h23, sp23, h56, sp56, decX, xt_eta, hA, hB', hC, hlt, hlt', he, he2, hlo', hhi']; with_reducible rfl)); skip)
 | (apply evOps_split; (case _hg => rfl); (case _ht => rfl); (case hb => (simp [dstB]; with_reducible rfl)); (case hv => ((fail_if_success (with_reducible exact (rfl : (_ : AV) = AV.d (.val (.bool true)) _))); (fail_if_success (with_reducible exact (rfl : (_ : AV) = AV.d (.val (.bool false)) _))); rfl)); skip)
 | (apply WP_cond; (case hx => (simp [St.eval, dstB, b3, b4, b5, a0, a1, a2, a3, a9, a10, a11, Xt.enc, h23, sp23, h56, sp56, decX, xt_eta, hA, hB', hC, hlt, hlt', he, he2, hlo', hhi']; with_reducible rfl)); (case hv => rfl); skip))
            refine hY (piecesX p q (l.take i)) ((partX e lo hi, true)) ((partX e (max lo hi) (endX e), false) :: piecesX p q (l.drop (i + 1))) _ _ (by rw [hsp, hE]; simp) (hI _ σ1 _ (fun x hx => by
              have q1 : ¬ x = 2006 := by omega
              simp [dstB, q1]) (by simp [dstB]; try omega) (by simpa using hinv)) ?_
            intro σ2 henv hc hown hinv'
            clear hinv
            have hinv := hinv'
            clear hinv'
            simp only [put_env', put_own', put_ctr', put_none', setOwn_env', setOwn_own', setOwn_ctr', setCtr_env', setCtr_own', setCtr_ctr', entry, entryEnv, entryOwn, inAV, scAV, inOB] at hc
            have c0 : σ2.env 0 = .yld s g := by rw [henv]; simp [dstB, a0]
            have c1 : σ2.env 1 = .rp 1003 g3 0 0 := by rw [henv]; simp [dstB, a1]
            have c2 : σ2.env 2 = .rp 1004 g4 0 0 := by rw [henv]; simp [dstB, a2]
            have c3 : σ2.env 3 = .rp 1005 g5 0 0 := by rw [henv]; simp [dstB, a3]
            have c9 : σ2.env 9 = .d (.sl n (l.map Xt.enc)) false := by rw [henv]; simp [dstB, a9]
            have c10 : σ2.env 10 = .d (vi l.length) true := by rw [henv]; simp [dstB, a10]
            have c11 : σ2.env 11 = .d (vi i) true := by rw [henv]; simp [dstB, a11]
            have c6 : ∃ g6 m6, σ2.env 6 = .rp 2006 g6 0 0 ∧ σ2.own 2006 = some (.var 24 g6 m6 [.d (vi e.at') false, .d (vi e.start) false, .d (vi e.len) false, .d (vb e.un) false]) := ⟨_, _, by rw [henv]; simp [dstB]; rfl, by rw [hown 2006 (by decide)]; simp [dstB]; try rfl⟩
            have c7 : σ2.env 7 = .d (vi lo) true := by rw [henv]; simp [dstB]
            have c8 : σ2.env 8 = .d (vi hi) true := by rw [henv]; simp [dstB]
            have cG : σ2.env 46 = .d (.val (.bool true)) true := by rw [henv]; simp [dstB, hA, hB', hC]
            obtain ⟨g6, m6, e6, o6⟩ := c6
            clear b3 b4 b5 a0 a1 a2 a3 a9 a10 a11 henv hown
            obtain ⟨b3, b4, b5⟩ := hB _ _ hinv
            have a0 := c0
            have a1 := c1
            have a2 := c2
            have a3 := c3
            have a9 := c9
            have a10 := c10
            have a11 := c11
            have a6 := e6
            have p6 := o6
            have a7 := c7
            have a8 := c8
            clear c0 c1 c2 c3 c9 c10 c11 e6 o6 c7 c8
            have aG := cG
            clear cG
            show evOps _ _ _ _ _ _ _ _ _ _ _
            repeat' (first
 | (intro h; first | (exfalso; exact Bool.noConfusion h) | (simp only [decide_eq_true_eq, decide_eq_false_iff_not] at h) | skip)
 | (apply evOps_fin; (case hf => (simp only [finGo, app1]; rfl)); skip)
 | refine WP_seq ?_
 | refine WP_scope ?_
 | refine WP_block ?_
 | refine WP_ret ?_
 | refine WP_skip ?_
 | refine WP_exit ?_
 | (apply WP_region; (case hl => rfl); (case hc => (simp only [put_env', put_own', put_ctr', put_none', setOwn_env', setOwn_own', setOwn_ctr', setCtr_env', setCtr_own', setCtr_ctr', entry, entryEnv, entryOwn, inAV, scAV, inOB]; rfl)); (case hc' => (conv => lhs; simp only [List.size_toArray, List.length_cons, List.length_nil, Nat.zero_add, Nat.reduceAdd, Nat.add_assoc])); skip)
 | (apply WP_draw; (case hl => rfl); (case hds => (simp only [List.map_cons, List.map_nil]; rfl)); (case hc => (simp only [put_env', put_own', put_ctr', put_none', setOwn_env', setOwn_own', setOwn_ctr', setCtr_env', setCtr_own', setCtr_ctr', entry, entryEnv, entryOwn, inAV, scAV, inOB]; rfl)); (case hc' => (conv => lhs; simp only [List.size_toArray, List.length_cons, List.length_nil, Nat.zero_add, Nat.reduceAdd, Nat.add_assoc])); (case hD => rfl); (case hb => kernel_rfl); (case h1 => (simp only [List.take_succ_cons, List.take_zero]; rfl)); (case h2 => (simp only [List.drop_succ_cons, List.drop_zero]; rfl)); (case h3 => (simp only [List.take_succ_cons, List.take_zero]; rfl)); intro had; skip)
 | refine evOps_nil ?_
 | refine evQ_nil ?_
 | (apply evQ_one; (case had => assumption); (case hg => rfl); (case hd => (simp [dstB]; done)); (case h => (simp [evQuiet, evCallQ, known, njk, AV.isJunk, Op.operands, Call.operands, evEff, evStep, evPure, b3, b4, b5, a0, a1, a2, a3, a9, a10, a11, Xt.enc, h23, sp23, h56, sp56, decX, xt_eta, hA, hB', hC, a6, p6, a7, a8, aG]; with_reducible rfl)); (case hs => (simp; done)); (case hR => (simp only [List.nil_append, List.cons_append]; rfl)); skip)
 | (apply evQ_yes; (case had => assumption); (case hg => rfl); (case hb => (simp [gval, evEff, dstB, b3, b4, b5, a0, a1, a2, a3, a9, a10, a11, Xt.enc, h23, sp23, h56, sp56, decX, xt_eta, hA, hB', hC, a6, p6, a7, a8, aG]; done)); (case hd => (simp [dstB]; done)); (case h => (simp [evQuiet, evCallQ, known, njk, AV.isJunk, Op.operands, Call.operands, evEff, evStep, evPure, b3, b4, b5, a0, a1, a2, a3, a9, a10, a11, Xt.enc, h23, sp23, h56, sp56, decX, xt_eta, hA, hB', hC, a6, p6, a7, a8, aG]; with_reducible rfl)); (case hs => (simp; done)); (case hR => (simp only [List.nil_append, List.cons_append]; rfl)); skip)
 | (apply evQ_no; (case had => assumption); (case hg => rfl); (case hb => (simp [gval, evEff, dstB, b3, b4, b5, a0, a1, a2, a3, a9, a10, a11, Xt.enc, h23, sp23, h56, sp56, decX, xt_eta, hA, hB', hC, a6, p6, a7, a8, aG]; with_reducible rfl)); (case hne => (simp; done)); (case hd => (simp [dstB]; done)); (case hR => (simp only [List.nil_append, List.cons_append]; rfl)); skip)
 | (apply evQ_split; (case hg => rfl); (case hb => (simp only [List.getElem?_cons_succ, List.getElem?_cons_zero]; rfl)); (case hv => ((fail_if_success (with_reducible exact (rfl : (_ : QR) = (AV.d (.val (.bool true)) _, none)))); (fail_if_success (with_reducible exact (rfl : (_ : QR) = (AV.d (.val (.bool false)) _, none)))); rfl)); (case hT => (simp only [List.set_cons_succ, List.set_cons_zero]; rfl)); (case hF => (simp only [List.set_cons_succ, List.set_cons_zero]; rfl)); skip)
 | (apply evOps_one; (case hg => rfl); (case h => (simp [evStep, evPure, b3, b4, b5, a0, a1, a2, a3, a9, a10, a11, Xt.enc, h23, sp23, h56, sp56, decX, xt_eta, hA, hB', hC, a6, p6, a7, a8, aG]; with_reducible rfl)); skip)
 | (apply evOps_yes; (case hg => rfl); (case hb => (simp [gval, dstB, b3, b4, b5, a0, a1, a2, a3, a9, a10, a11, Xt.enc, h23, sp23, h56, sp56, decX, xt_eta, hA, hB', hC, a6, p6, a7, a8, aG]; done)); (case h => (simp [evStep, evPure, b3, b4, b5, a0, a1, a2, a3, a9, a10, a11, Xt.enc, h23, sp23, h56, sp56, decX, xt_eta, hA, hB', hC, a6, p6, a7, a8, aG]; with_reducible rfl)); skip)
 | (apply evOps_no; (case hg => rfl); (case hb => (simp [gval, dstB, b3, b4, b5, a0, a1, a2, a3, a9, a10, a11, Xt.enc, h23, sp23, h56, sp56, decX, xt_eta, hA, hB', hC, a6, p6, a7, a8, aG]; with_reducible rfl)); (case hne => (simp; done)); (case hd => (simp [dstB]; done)); skip)
 | (apply evOps_big; (case hg => rfl); (case hd => (simp [dstB]; done)); (case hb => (simp [evBig, evStep, evPure, b3, b4, b5, a0, a1, a2, a3, a9, a10, a11, Xt.enc, h23, sp23, h56, sp56, decX, xt_eta, hA, hB', hC, a6, p6, a7, a8, aG]; with_reducible rfl)); skip)
 | (apply evOps_bigYes; (case hg => rfl); (case hgv => (simp [gval, dstB, b3, b4, b5, a0, a1, a2, a3, a9, a10, a11, Xt.enc, h23, sp23, h56, sp56, decX, xt_eta, hA, hB', hC, a6, p6, a7, a8, aG]; done)); (case hd => (simp [dstB]; done)); (case hb => (simp [evBig, evStep, evPure, b3, b4, b5, a0, a1, a2, a3, a9, a10, a11, Xt.enc, h23, sp23, h56, sp56, decX, xt_eta, hA, hB', hC, a6, p6, a7, a8, aG]; with_reducible rfl)); skip)
 | (apply evOps_split; (case _hg => rfl); (case _ht => rfl); (case hb => (simp [dstB]; with_reducible rfl)); (case hv => ((fail_if_success (with_reducible exact (rfl : (_ : AV) = AV.d (.val (.bool true)) _))); (fail_if_success (with_reducible exact (rfl : (_ : AV) = AV.d (.val (.bool false)) _))); rfl)); skip)
 | (apply WP_cond; (case hx => (simp [St.eval, dstB, b3, b4, b5, a0, a1, a2, a3, a9, a10, a11, Xt.enc, h23, sp23, h56, sp56, decX, xt_eta, hA, hB', hC, a6, p6, a7, a8, aG]; with_reducible rfl)); (case hv => rfl); skip))
            refine hY ((piecesX p q (l.take i) ++ [(partX e lo hi, true)])) ((partX e (max lo hi) (endX e), false)) (piecesX p q (l.drop (i + 1))) _ _ (by rw [hsp, hE]; simp) (hI _ σ2 _ (fun x hx => by
              have q1 : ¬ x = 2006 := by omega
              simp [dstB, q1]) (by simp [dstB]; try omega) (by simpa using hinv)) ?_
            intro σ3 henv hc hown hinv'
            clear hinv
            have hinv := hinv'
            clear hinv'
            simp only [put_env', put_own', put_ctr', put_none', setOwn_env', setOwn_own', setOwn_ctr', setCtr_env', setCtr_own', setCtr_ctr', entry, entryEnv, entryOwn, inAV, scAV, inOB] at hc
            have c0 : σ3.env 0 = .yld s g := by rw [henv]; simp [dstB, a0]
            have c1 : σ3.env 1 = .rp 1003 g3 0 0 := by rw [henv]; simp [dstB, a1]
            have c2 : σ3.env 2 = .rp 1004 g4 0 0 := by rw [henv]; simp [dstB, a2]
            have c3 : σ3.env 3 = .rp 1005 g5 0 0 := by rw [henv]; simp [dstB, a3]
            have c9 : σ3.env 9 = .d (.sl n (l.map Xt.enc)) false := by rw [henv]; simp [dstB, a9]
            have c10 : σ3.env 10 = .d (vi l.length) true := by rw [henv]; simp [dstB, a10]
            have c11 : σ3.env 11 = .d (vi i) true := by rw [henv]; simp [dstB, a11]
            have c6 : ∃ g6 m6, σ3.env 6 = .rp 2006 g6 0 0 ∧ σ3.own 2006 = some (.var 24 g6 m6 [.d (vi e.at') false, .d (vi e.start) false, .d (vi e.len) false, .d (vb e.un) false]) := ⟨_, _, by rw [henv]; simp [dstB, a6, p6]; rfl, by rw [hown 2006 (by decide)]; simp [dstB, a6, p6]; try rfl⟩
            have c7 : σ3.env 7 = .d (vi lo) true := by rw [henv]; simp [dstB, a7]
            have c8 : σ3.env 8 = .d (vi hi) true := by rw [henv]; simp [dstB, a8]
            have cG : σ3.env 61 = .d (.val (.bool true)) true := by rw [henv]; simp [dstB, hA, hB', hC]
            obtain ⟨g6, m6, e6, o6⟩ := c6
            clear b3 b4 b5 a0 a1 a2 a3 a9 a10 a11 a6 p6 a7 a8 aG henv hown
            obtain ⟨b3, b4, b5⟩ := hB _ _ hinv
            have a0 := c0
            have a1 := c1
            have a2 := c2
            have a3 := c3
            have a9 := c9
            have a10 := c10
            have a11 := c11
            have a6 := e6
            have p6 := o6
            have a7 := c7
            have a8 := c8
            clear c0 c1 c2 c3 c9 c10 c11 e6 o6 c7 c8
            have aG := cG
            clear cG
            show evOps _ _ _ _ _ _ _ _ _ _ _
            repeat' (first
 | (intro h; first | (exfalso; exact Bool.noConfusion h) | (simp only [decide_eq_true_eq, decide_eq_false_iff_not] at h) | skip)
 | (apply evOps_fin; (case hf => (simp only [finGo, app1]; rfl)); skip)
 | refine WP_seq ?_
 | refine WP_scope ?_
 | refine WP_block ?_
 | refine WP_ret ?_
 | refine WP_skip ?_
 | refine WP_exit ?_
 | (apply WP_region; (case hl => rfl); (case hc => (simp only [put_env', put_own', put_ctr', put_none', setOwn_env', setOwn_own', setOwn_ctr', setCtr_env', setCtr_own', setCtr_ctr', entry, entryEnv, entryOwn, inAV, scAV, inOB]; rfl)); (case hc' => (conv => lhs; simp only [List.size_toArray, List.length_cons, List.length_nil, Nat.zero_add, Nat.reduceAdd, Nat.add_assoc])); skip)
 | (apply WP_draw; (case hl => rfl); (case hds => (simp only [List.map_cons, List.map_nil]; rfl)); (case hc => (simp only [put_env', put_own', put_ctr', put_none', setOwn_env', setOwn_own', setOwn_ctr', setCtr_env', setCtr_own', setCtr_ctr', entry, entryEnv, entryOwn, inAV, scAV, inOB]; rfl)); (case hc' => (conv => lhs; simp only [List.size_toArray, List.length_cons, List.length_nil, Nat.zero_add, Nat.reduceAdd, Nat.add_assoc])); (case hD => rfl); (case hb => kernel_rfl); (case h1 => (simp only [List.take_succ_cons, List.take_zero]; rfl)); (case h2 => (simp only [List.drop_succ_cons, List.drop_zero]; rfl)); (case h3 => (simp only [List.take_succ_cons, List.take_zero]; rfl)); intro had; skip)
 | refine evOps_nil ?_
 | refine evQ_nil ?_
 | (apply evQ_one; (case had => assumption); (case hg => rfl); (case hd => (simp [dstB]; done)); (case h => (simp [evQuiet, evCallQ, known, njk, AV.isJunk, Op.operands, Call.operands, evEff, evStep, evPure, b3, b4, b5, a0, a1, a2, a3, a9, a10, a11, Xt.enc, h23, sp23, h56, sp56, decX, xt_eta, hA, hB', hC, a6, p6, a7, a8, aG]; with_reducible rfl)); (case hs => (simp; done)); (case hR => (simp only [List.nil_append, List.cons_append]; rfl)); skip)
 | (apply evQ_yes; (case had => assumption); (case hg => rfl); (case hb => (simp [gval, evEff, dstB, b3, b4, b5, a0, a1, a2, a3, a9, a10, a11, Xt.enc, h23, sp23, h56, sp56, decX, xt_eta, hA, hB', hC, a6, p6, a7, a8, aG]; done)); (case hd => (simp [dstB]; done)); (case h => (simp [evQuiet, evCallQ, known, njk, AV.isJunk, Op.operands, Call.operands, evEff, evStep, evPure, b3, b4, b5, a0, a1, a2, a3, a9, a10, a11, Xt.enc, h23, sp23, h56, sp56, decX, xt_eta, hA, hB', hC, a6, p6, a7, a8, aG]; with_reducible rfl)); (case hs => (simp; done)); (case hR => (simp only [List.nil_append, List.cons_append]; rfl)); skip)
 | (apply evQ_no; (case had => assumption); (case hg => rfl); (case hb => (simp [gval, evEff, dstB, b3, b4, b5, a0, a1, a2, a3, a9, a10, a11, Xt.enc, h23, sp23, h56, sp56, decX, xt_eta, hA, hB', hC, a6, p6, a7, a8, aG]; with_reducible rfl)); (case hne => (simp; done)); (case hd => (simp [dstB]; done)); (case hR => (simp only [List.nil_append, List.cons_append]; rfl)); skip)
 | (apply evQ_split; (case hg => rfl); (case hb => (simp only [List.getElem?_cons_succ, List.getElem?_cons_zero]; rfl)); (case hv => ((fail_if_success (with_reducible exact (rfl : (_ : QR) = (AV.d (.val (.bool true)) _, none)))); (fail_if_success (with_reducible exact (rfl : (_ : QR) = (AV.d (.val (.bool false)) _, none)))); rfl)); (case hT => (simp only [List.set_cons_succ, List.set_cons_zero]; rfl)); (case hF => (simp only [List.set_cons_succ, List.set_cons_zero]; rfl)); skip)
 | (apply evOps_one; (case hg => rfl); (case h => (simp [evStep, evPure, b3, b4, b5, a0, a1, a2, a3, a9, a10, a11, Xt.enc, h23, sp23, h56, sp56, decX, xt_eta, hA, hB', hC, a6, p6, a7, a8, aG]; with_reducible rfl)); skip)
 | (apply evOps_yes; (case hg => rfl); (case hb => (simp [gval, dstB, b3, b4, b5, a0, a1, a2, a3, a9, a10, a11, Xt.enc, h23, sp23, h56, sp56, decX, xt_eta, hA, hB', hC, a6, p6, a7, a8, aG]; done)); (case h => (simp [evStep, evPure, b3, b4, b5, a0, a1, a2, a3, a9, a10, a11, Xt.enc, h23, sp23, h56, sp56, decX, xt_eta, hA, hB', hC, a6, p6, a7, a8, aG]; with_reducible rfl)); skip)
 | (apply evOps_no; (case hg => rfl); (case hb => (simp [gval, dstB, b3, b4, b5, a0, a1, a2, a3, a9, a10, a11, Xt.enc, h23, sp23, h56, sp56, decX, xt_eta, hA, hB', hC, a6, p6, a7, a8, aG]; with_reducible rfl)); (case hne => (simp; done)); (case hd => (simp [dstB]; done)); skip)
 | (apply evOps_big; (case hg => rfl); (case hd => (simp [dstB]; done)); (case hb => (simp [evBig, evStep, evPure, b3, b4, b5, a0, a1, a2, a3, a9, a10, a11, Xt.enc, h23, sp23, h56, sp56, decX, xt_eta, hA, hB', hC, a6, p6, a7, a8, aG]; with_reducible rfl)); skip)
 | (apply evOps_bigYes; (case hg => rfl); (case hgv => (simp [gval, dstB, b3, b4, b5, a0, a1, a2, a3, a9, a10, a11, Xt.enc, h23, sp23, h56, sp56, decX, xt_eta, hA, hB', hC, a6, p6, a7, a8, aG]; done)); (case hd => (simp [dstB]; done)); (case hb => (simp [evBig, evStep, evPure, b3, b4, b5, a0, a1, a2, a3, a9, a10, a11, Xt.enc, h23, sp23, h56, sp56, decX, xt_eta, hA, hB', hC, a6, p6, a7, a8, aG]; with_reducible rfl)); skip)
 | (apply evOps_split; (case _hg => rfl); (case _ht => rfl); (case hb => (simp [dstB]; with_reducible rfl)); (case hv => ((fail_if_success (with_reducible exact (rfl : (_ : AV) = AV.d (.val (.bool true)) _))); (fail_if_success (with_reducible exact (rfl : (_ : AV) = AV.d (.val (.bool false)) _))); rfl)); skip)
 | (apply WP_cond; (case hx => (simp [St.eval, dstB, b3, b4, b5, a0, a1, a2, a3, a9, a10, a11, Xt.enc, h23, sp23, h56, sp56, decX, xt_eta, hA, hB', hC, a6, p6, a7, a8, aG]; with_reducible rfl)); (case hv => rfl); skip))
            refine ⟨l.length - (i + 1), gcF [0, 1, 2, 3, 9, 10, 11] [] 2000 3000 _, by omega, gcF_forget _ _ _ _ _, i + 1, by omega, rfl, ?_, ?_, ?_, ?_, ?_, ?_, ?_, ?_, ?_⟩
            · simp [gcF, dstB]; omega
            · simp [gcF, restrictEnv, dstB, a0]
            · simp [gcF, restrictEnv, dstB, a1]
            · simp [gcF, restrictEnv, dstB, a2]
            · simp [gcF, restrictEnv, dstB, a3]
            · simp [gcF, restrictEnv, dstB, a9]
            · simp [gcF, restrictEnv, dstB, a10]
            · simp [gcF, restrictEnv, dstB, a11, hwi]
            · rw [htk, hE]
              refine hI _ σ3 _ (fun x hx => ?_) ?_ (by simpa using hinv)
              · have q1 : ¬ x = 2006 := by omega
                have q2 : ¬ 2000 ≤ x := by omega
                simp [gcF, dstB, q1, q2]
              · simp [gcF, dstB]; try omega
          · have hE : piecesE p q e = [(partX e lo hi, true)] := by simp [piecesE, hlo, hhi, hA, hB', hC]
            repeat' (first
 | (intro h; first | (exfalso; exact Bool.noConfusion h) | (simp only [decide_eq_true_eq, decide_eq_false_iff_not] at h) | skip)
 | (apply evOps_fin; (case hf => (simp only [finGo, app1]; rfl)); skip)
 | refine WP_seq ?_
 | refine WP_scope ?_
 | refine WP_block ?_
 | refine WP_ret ?_
 | refine WP_skip ?_
 | refine WP_exit ?_
 | (apply WP_region; (case hl => rfl); (case hc => (simp only [put_env', put_own', put_ctr', put_none', setOwn_env', setOwn_own', setOwn_ctr', setCtr_env', setCtr_own', setCtr_ctr', entry, entryEnv, entryOwn, inAV, scAV, inOB]; rfl)); (case hc' => (conv => lhs; simp only [List.size_toArray, List.length_cons, List.length_nil, Nat.zero_add, Nat.reduceAdd, Nat.add_assoc])); skip)
 | (apply WP_draw; (case hl => rfl); (case hds => (simp only [List.map_cons, List.map_nil]; rfl)); (case hc => (simp only [put_env', put_own', put_ctr', put_none', setOwn_env', setOwn_own', setOwn_ctr', setCtr_env', setCtr_own', setCtr_ctr', entry, entryEnv, entryOwn, inAV, scAV, inOB]; rfl)); (case hc' => (conv => lhs; simp only [List.size_toArray, List.length_cons, List.length_nil, Nat.zero_add, Nat.reduceAdd, Nat.add_assoc])); (case hD => rfl); (case hb => kernel_rfl); (case h1 => (simp only [List.take_succ_cons, List.take_zero]; rfl)); (case h2 => (simp only [List.drop_succ_cons, List.drop_zero]; rfl)); (case h3 => (simp only [List.take_succ_cons, List.take_zero]; rfl)); intro had; skip)
 | refine evOps_nil ?_
 | refine evQ_nil ?_
 | (apply evQ_one; (case had => assumption); (case hg => rfl); (case hd => (simp [dstB]; done)); (case h => (simp [evQuiet, evCallQ, known, njk, AV.isJunk, Op.operands, Call.operands, evEff, evStep, evPure, b3, b4, b5, a0, a1, a2, a3, a9, a10, a11, Xt.enc, h23, sp23, h56, sp56, decX, xt_eta, hA, hB', hC, hlt, hlt', he, he2, hlo', hhi']; with_reducible rfl)); (case hs => (simp; done)); (case hR => (simp only [List.nil_append, List.cons_append]; rfl)); skip)
 | (apply evQ_yes; (case had => assumption); (case hg => rfl); (case hb => (simp [gval, evEff, dstB, b3, b4, b5, a0, a1, a2, a3, a9, a10, a11, Xt.enc, h23, sp23, h56, sp56, decX, xt_eta, hA, hB', hC, hlt, hlt', he, he2, hlo', hhi']; done)); (case hd => (simp [dstB]; done)); (case h => (simp [evQuiet, evCallQ, known, njk, AV.isJunk, Op.operands, Call.operands, evEff, evStep, evPure, b3, b4, b5, a0, a1, a2, a3, a9, a10, a11, Xt.enc, h23, sp23, h56, sp56, decX, xt_eta, hA, hB', hC, hlt, hlt', he, he2, hlo', hhi']; with_reducible rfl)); (case hs => (simp; done)); (case hR => (simp only [List.nil_append, List.cons_append]; rfl)); skip)
 | (apply evQ_no; (case had => assumption); (case hg => rfl); (case hb => (simp [gval, evEff, dstB, b3, b4, b5, a0, a1, a2, a3, a9, a10, a11, Xt.enc, h23, sp23, h56, sp56, decX, xt_eta, hA, hB', hC, hlt, hlt', he, he2, hlo', hhi']; with_reducible rfl)); (case hne => (simp; done)); (case hd => (simp [dstB]; done)); (case hR => (simp only [List.nil_append, List.cons_append]; rfl)); skip)
 | (apply evQ_split; (case hg => rfl); (case hb => (simp only [List.getElem?_cons_succ, List.getElem?_cons_zero]; rfl)); (case hv => ((fail_if_success (with_reducible exact (rfl : (_ : QR) = (AV.d (.val (.bool true)) _, none)))); (fail_if_success (with_reducible exact (rfl : (_ : QR) = (AV.d (.val (.bool false)) _, none)))); rfl)); (case hT => (simp only [List.set_cons_succ, List.set_cons_zero]; rfl)); (case hF => (simp only [List.set_cons_succ, List.set_cons_zero]; rfl)); skip)
 | (apply evOps_one; (case hg => rfl); (case h => (simp [evStep, evPure, b3, b4, b5, a0, a1, a2, a3, a9, a10, a11, Xt.enc, h23, sp23, h56, sp56, decX, xt_eta, hA, hB', hC, hlt, hlt', he, he2, hlo', hhi']; with_reducible rfl)); skip)
 | (apply evOps_yes; (case hg => rfl); (case hb => (simp [gval, dstB, b3, b4, b5, a0, a1, a2, a3, a9, a10, a11, Xt.enc, h23, sp23, h56, sp56, decX, xt_eta, hA, hB', hC, hlt, hlt', he, he2, hlo', hhi']; done)); (case h => (simp [evStep, evPure, b3, b4, b5, a0, a1, a2, a3, a9, a10, a11, Xt.enc, h23, sp23, h56, sp56, decX, xt_eta, hA, hB', hC, hlt, hlt', he, he2, hlo', hhi']; with_reducible rfl)); skip)
 | (apply evOps_no; (case hg => rfl); (case hb => (simp [gval, dstB, b3, b4, b5, a0, a1, a2, a3, a9, a10, a11, Xt.enc, h23, sp23, h56, sp56, decX, xt_eta, hA, hB', hC, hlt, hlt', he, he2, hlo', hhi']; with_reducible rfl)); (case hne => (simp; done)); (case hd => (simp [dstB]; done)); skip)
 | (apply evOps_big; (case hg => rfl); (case hd => (simp [dstB]; done)); (case hb => (simp [evBig, evStep, evPure, b3, b4, b5, a0, a1, a2, a3, a9, a10, a11, Xt.enc, h23, sp23, h56, sp56, decX, xt_eta, hA, hB', hC, hlt, hlt', he, he2, hlo', hhi']; with_reducible rfl)); skip)
 | (apply evOps_bigYes; (case hg => rfl); (case hgv => (simp [gval, dstB, b3, b4, b5, a0, a1, a2, a3, a9, a10, a11, Xt.enc, h23, sp23, h56, sp56, decX, xt_eta, hA, hB', hC, hlt, hlt', he, he2, hlo', hhi']; done)); (case hd => (simp [dstB]; done)); (case hb => (simp [evBig, evStep, evPure, b3, b4, b5, a0, a1, a2, a3, a9, a10, a11, Xt.enc, h23, sp23, h56, sp56, decX, xt_eta, hA, hB', hC, hlt, hlt', he, he2, hlo', hhi']; with_reducible rfl)); skip)
 | (apply evOps_split; (case _hg => rfl); (case _ht => rfl); (case hb => (simp [dstB]; with_reducible rfl)); (case hv => ((fail_if_success (with_reducible exact (rfl : (_ : AV) = AV.d (.val (.bool true)) _))); (fail_if_success (with_reducible exact (rfl : (_ : AV) = AV.d (.val (.bool false)) _))); rfl)); skip)
 | (apply WP_cond; (case hx => (simp [St.eval, dstB, b3, b4, b5, a0, a1, a2, a3, a9, a10, a11, Xt.enc, h23, sp23, h56, sp56, decX, xt_eta, hA, hB', hC, hlt, hlt', he, he2, hlo', hhi']; with_reducible rfl)); (case hv => rfl); skip))
            refine hY (piecesX p q (l.take i)) ((partX e lo hi, true)) (piecesX p q (l.drop (i + 1))) _ _ (by rw [hsp, hE]; simp) (hI _ σ1 _ (fun x hx => by
              have q1 : ¬ x = 2006 := by omega
              simp [dstB, q1]) (by simp [dstB]; try omega) (by simpa using hinv)) ?_
            intro σ2 henv hc hown hinv'
            clear hinv
            have hinv := hinv'
            clear hinv'
            simp only [put_env', put_own', put_ctr', put_none', setOwn_env', setOwn_own', setOwn_ctr', setCtr_env', setCtr_own', setCtr_ctr', entry, entryEnv, entryOwn, inAV, scAV, inOB] at hc
            have c0 : σ2.env 0 = .yld s g := by rw [henv]; simp [dstB, a0]
            have c1 : σ2.env 1 = .rp 1003 g3 0 0 := by rw [henv]; simp [dstB, a1]
            have c2 : σ2.env 2 = .rp 1004 g4 0 0 := by rw [henv]; simp [dstB, a2]
            have c3 : σ2.env 3 = .rp 1005 g5 0 0 := by rw [henv]; simp [dstB, a3]
            have c9 : σ2.env 9 = .d (.sl n (l.map Xt.enc)) false := by rw [henv]; simp [dstB, a9]
            have c10 : σ2.env 10 = .d (vi l.length) true := by rw [henv]; simp [dstB, a10]
            have c11 : σ2.env 11 = .d (vi i) true := by rw [henv]; simp [dstB, a11]
            have c6 : ∃ g6 m6, σ2.env 6 = .rp 2006 g6 0 0 ∧ σ2.own 2006 = some (.var 24 g6 m6 [.d (vi e.at') false, .d (vi e.start) false, .d (vi e.len) false, .d (vb e.un) false]) := ⟨_, _, by rw [henv]; simp [dstB]; rfl, by rw [hown 2006 (by decide)]; simp [dstB]; try rfl⟩
            have c7 : σ2.env 7 = .d (vi lo) true := by rw [henv]; simp [dstB]
            have c8 : σ2.env 8 = .d (vi hi) true := by rw [henv]; simp [dstB]
            have cG : σ2.env 46 = .d (.val (.bool true)) true := by rw [henv]; simp [dstB, hA, hB', hC]
            obtain ⟨g6, m6, e6, o6⟩ := c6
            clear b3 b4 b5 a0 a1 a2 a3 a9 a10 a11 henv hown
            obtain ⟨b3, b4, b5⟩ := hB _ _ hinv
            have a0 := c0
            have a1 := c1
            have a2 := c2
            have a3 := c3
            have a9 := c9
            have a10 := c10
            have a11 := c11
            have a6 := e6
            have p6 := o6
            have a7 := c7
            have a8 := c8
            clear c0 c1 c2 c3 c9 c10 c11 e6 o6 c7 c8
            have aG := cG
            clear cG
            show evOps _ _ _ _ _ _ _ _ _ _ _
            repeat' (first
 | (intro h; first | (exfalso; exact Bool.noConfusion h) | (simp only [decide_eq_true_eq, decide_eq_false_iff_not] at h) | skip)
 | (apply evOps_fin; (case hf => (simp only [finGo, app1]; rfl)); skip)
 | refine WP_seq ?_
 | refine WP_scope ?_
 | refine WP_block ?_
 | refine WP_ret ?_
 | refine WP_skip ?_
 | refine WP_exit ?_
 | (apply WP_region; (case hl => rfl); (case hc => (simp only [put_env', put_own', put_ctr', put_none', setOwn_env', setOwn_own', setOwn_ctr', setCtr_env', setCtr_own', setCtr_ctr', entry, entryEnv, entryOwn, inAV, scAV, inOB]; rfl)); (case hc' => (conv => lhs; simp only [List.size_toArray, List.length_cons, List.length_nil, Nat.zero_add, Nat.reduceAdd, Nat.add_assoc])); skip)
 | (apply WP_draw; (case hl => rfl); (case hds => (simp only [List.map_cons, List.map_nil]; rfl)); (case hc => (simp only [put_env', put_own', put_ctr', put_none', setOwn_env', setOwn_own', setOwn_ctr', setCtr_env', setCtr_own', setCtr_ctr', entry, entryEnv, entryOwn, inAV, scAV, inOB]; rfl)); (case hc' => (conv => lhs; simp only [List.size_toArray, List.length_cons, List.length_nil, Nat.zero_add, Nat.reduceAdd, Nat.add_assoc])); (case hD => rfl); (case hb => kernel_rfl); (case h1 => (simp only [List.take_succ_cons, List.take_zero]; rfl)); (case h2 => (simp only [List.drop_succ_cons, List.drop_zero]; rfl)); (case h3 => (simp only [List.take_succ_cons, List.take_zero]; rfl)); intro had; skip)
 | refine evOps_nil ?_
 | refine evQ_nil ?_
 | (apply evQ_one; (case had => assumption); (case hg => rfl); (case hd => (simp [dstB]; done)); (case h => (simp [evQuiet, evCallQ, known, njk, AV.isJunk, Op.operands, Call.operands, evEff, evStep, evPure, b3, b4, b5, a0, a1, a2, a3, a9, a10, a11, Xt.enc, h23, sp23, h56, sp56, decX, xt_eta, hA, hB', hC, a6, p6, a7, a8, aG]; with_reducible rfl)); (case hs => (simp; done)); (case hR => (simp only [List.nil_append, List.cons_append]; rfl)); skip)
 | (apply evQ_yes; (case had => assumption); (case hg => rfl); (case hb => (simp [gval, evEff, dstB, b3, b4, b5, a0, a1, a2, a3, a9, a10, a11, Xt.enc, h23, sp23, h56, sp56, decX, xt_eta, hA, hB', hC, a6, p6, a7, a8, aG]; done)); (case hd => (simp [dstB]; done)); (case h => (simp [evQuiet, evCallQ, known, njk, AV.isJunk, Op.operands, Call.operands, evEff, evStep, evPure, b3, b4, b5, a0, a1, a2, a3, a9, a10, a11, Xt.enc, h23, sp23, h56, sp56, decX, xt_eta, hA, hB', hC, a6, p6, a7, a8, aG]; with_reducible rfl)); (case hs => (simp; done)); (case hR => (simp only [List.nil_append, List.cons_append]; rfl)); skip)
 | (apply evQ_no; (case had => assumption); (case hg => rfl); (case hb => (simp [gval, evEff, dstB, b3, b4, b5, a0, a1, a2, a3, a9, a10, a11, Xt.enc, h23, sp23, h56, sp56, decX, xt_eta, hA, hB', hC, a6, p6, a7, a8, aG]; with_reducible rfl)); (case hne => (simp; done)); (case hd => (simp [dstB]; done)); (case hR => (simp only [List.nil_append, List.cons_append]; rfl)); skip)
 | (apply evQ_split; (case hg => rfl); (case hb => (simp only [List.getElem?_cons_succ, List.getElem?_cons_zero]; rfl)); (case hv => ((fail_if_success (with_reducible exact (rfl : (_ : QR) = (AV.d (.val (.bool true)) _, none)))); (fail_if_success (with_reducible exact (rfl : (_ : QR) = (AV.d (.val (.bool false)) _, none)))); rfl)); (case hT => (simp only [List.set_cons_succ, List.set_cons_zero]; rfl)); (case hF => (simp only [List.set_cons_succ, List.set_cons_zero]; rfl)); skip)
 | (apply evOps_one; (case hg => rfl); (case h => (simp [evStep, evPure, b3, b4, b5, a0, a1, a2, a3, a9, a10, a11, Xt.enc, h23, sp23, h56, sp56, decX, xt_eta, hA, hB', hC, a6, p6, a7, a8, aG]; with_reducible rfl)); skip)
 | (apply evOps_yes; (case hg => rfl); (case hb => (simp [gval, dstB, b3, b4, b5, a0, a1, a2, a3, a9, a10, a11, Xt.enc, h23, sp23, h56, sp56, decX, xt_eta, hA, hB', hC, a6, p6, a7, a8, aG]; done)); (case h => (simp [evStep, evPure, b3, b4, b5, a0, a1, a2, a3, a9, a10, a11, Xt.enc, h23, sp23, h56, sp56, decX, xt_eta, hA, hB', hC, a6, p6, a7, a8, aG]; with_reducible rfl)); skip)
 | (apply evOps_no; (case hg => rfl); (case hb => (simp [gval, dstB, b3, b4, b5, a0, a1, a2, a3, a9, a10, a11, Xt.enc, h23, sp23, h56, sp56, decX, xt_eta, hA, hB', hC, a6, p6, a7, a8, aG]; with_reducible rfl)); (case hne => (simp; done)); (case hd => (simp [dstB]; done)); skip)
 | (apply evOps_big; (case hg => rfl); (case hd => (simp [dstB]; done)); (case hb => (simp [evBig, evStep, evPure, b3, b4, b5, a0, a1, a2, a3, a9, a10, a11, Xt.enc, h23, sp23, h56, sp56, decX, xt_eta, hA, hB', hC, a6, p6, a7, a8, aG]; with_reducible rfl)); skip)
 | (apply evOps_bigYes; (case hg => rfl); (case hgv => (simp [gval, dstB, b3, b4, b5, a0, a1, a2, a3, a9, a10, a11, Xt.enc, h23, sp23, h56, sp56, decX, xt_eta, hA, hB', hC, a6, p6, a7, a8, aG]; done)); (case hd => (simp [dstB]; done)); (case hb => (simp [evBig, evStep, evPure, b3, b4, b5, a0, a1, a2, a3, a9, a10, a11, Xt.enc, h23, sp23, h56, sp56, decX, xt_eta, hA, hB', hC, a6, p6, a7, a8, aG]; with_reducible rfl)); skip)
 | (apply evOps_split; (case _hg => rfl); (case _ht => rfl); (case hb => (simp [dstB]; with_reducible rfl)); (case hv => ((fail_if_success (with_reducible exact (rfl : (_ : AV) = AV.d (.val (.bool true)) _))); (fail_if_success (with_reducible exact (rfl : (_ : AV) = AV.d (.val (.bool false)) _))); rfl)); skip)
 | (apply WP_cond; (case hx => (simp [St.eval, dstB, b3, b4, b5, a0, a1, a2, a3, a9, a10, a11, Xt.enc, h23, sp23, h56, sp56, decX, xt_eta, hA, hB', hC, a6, p6, a7, a8, aG]; with_reducible rfl)); (case hv => rfl); skip))
            refine ⟨l.length - (i + 1), gcF [0, 1, 2, 3, 9, 10, 11] [] 2000 3000 _, by omega, gcF_forget _ _ _ _ _, i + 1, by omega, rfl, ?_, ?_, ?_, ?_, ?_, ?_, ?_, ?_, ?_⟩
            · simp [gcF, dstB]; omega
            · simp [gcF, restrictEnv, dstB, a0]
            · simp [gcF, restrictEnv, dstB, a1]
            · simp [gcF, restrictEnv, dstB, a2]
            · simp [gcF, restrictEnv, dstB, a3]
            · simp [gcF, restrictEnv, dstB, a9]
            · simp [gcF, restrictEnv, dstB, a10]
            · simp [gcF, restrictEnv, dstB, a11, hwi]
            · rw [htk, hE]
              refine hI _ σ2 _ (fun x hx => ?_) ?_ (by simpa using hinv)
              · have q1 : ¬ x = 2006 := by omega
                have q2 : ¬ 2000 ≤ x := by omega
                simp [gcF, dstB, q1, q2]
              · simp [gcF, dstB]; try omega
        · by_cases hC : max lo hi < endX e
          · have hE : piecesE p q e = [(partX e (max lo hi) (endX e), false)] := by simp [piecesE, hlo, hhi, hA, hB', hC]
            repeat' (first
 | (intro h; first | (exfalso; exact Bool.noConfusion h) | (simp only [decide_eq_true_eq, decide_eq_false_iff_not] at h) | skip)
 | (apply evOps_fin; (case hf => (simp only [finGo, app1]; rfl)); skip)
 | refine WP_seq ?_
 | refine WP_scope ?_
 | refine WP_block ?_
 | refine WP_ret ?_
 | refine WP_skip ?_
 | refine WP_exit ?_
 | (apply WP_region; (case hl => rfl); (case hc => (simp only [put_env', put_own', put_ctr', put_none', setOwn_env', setOwn_own', setOwn_ctr', setCtr_env', setCtr_own', setCtr_ctr', entry, entryEnv, entryOwn, inAV, scAV, inOB]; rfl)); (case hc' => (conv => lhs; simp only [List.size_toArray, List.length_cons, List.length_nil, Nat.zero_add, Nat.reduceAdd, Nat.add_assoc])); skip)
 | (apply WP_draw; (case hl => rfl); (case hds => (simp only [List.map_cons, List.map_nil]; rfl)); (case hc => (simp only [put_env', put_own', put_ctr', put_none', setOwn_env', setOwn_own', setOwn_ctr', setCtr_env', setCtr_own', setCtr_ctr', entry, entryEnv, entryOwn, inAV, scAV, inOB]; rfl)); (case hc' => (conv => lhs; simp only [List.size_toArray, List.length_cons, List.length_nil, Nat.zero_add, Nat.reduceAdd, Nat.add_assoc])); (case hD => rfl); (case hb => kernel_rfl); (case h1 => (simp only [List.take_succ_cons, List.take_zero]; rfl)); (case h2 => (simp only [List.drop_succ_cons, List.drop_zero]; rfl)); (case h3 => (simp only [List.take_succ_cons, List.take_zero]; rfl)); intro had; skip)
 | refine evOps_nil ?_
 | refine evQ_nil ?_
 | (apply evQ_one; (case had => assumption); (case hg => rfl); (case hd => (simp [dstB]; done)); (case h => (simp [evQuiet, evCallQ, known, njk, AV.isJunk, Op.operands, Call.operands, evEff, evStep, evPure, b3, b4, b5, a0, a1, a2, a3, a9, a10, a11, Xt.enc, h23, sp23, h56, sp56, decX, xt_eta, hA, hB', hC, hlt, hlt', he, he2, hlo', hhi']; with_reducible rfl)); (case hs => (simp; done)); (case hR => (simp only [List.nil_append, List.cons_append]; rfl)); skip)
 | (apply evQ_yes; (case had => assumption); (case hg => rfl); (case hb => (simp [gval, evEff, dstB, b3, b4, b5, a0, a1, a2, a3, a9, a10, a11, Xt.enc, h23, sp23, h56, sp56, decX, xt_eta, hA, hB', hC, hlt, hlt', he, he2, hlo', hhi']; done)); (case hd => (simp [dstB]; done)); (case h => (simp [evQuiet, evCallQ, known, njk, AV.isJunk, Op.operands, Call.operands, evEff, evStep, evPure, b3, b4, b5, a0, a1, a2, a3, a9, a10, a11, Xt.enc, h23, sp23, h56, sp56, decX, xt_eta, hA, hB', hC, hlt, hlt', he, he2, hlo', hhi']; with_reducible rfl)); (case hs => (simp; done)); (case hR => (simp only [List.nil_append, List.cons_append]; rfl)); skip)
 | (apply evQ_no; (case had => assumption); (case hg => rfl); (case hb => (simp [gval, evEff, dstB, b3, b4, b5, a0, a1, a2, a3, a9, a10, a11, Xt.enc, h23, sp23, h56, sp56, decX, xt_eta, hA, hB', hC, hlt, hlt', he, he2, hlo', hhi']; with_reducible rfl)); (case hne => (simp; done)); (case hd => (simp [dstB]; done)); (case hR => (simp only [List.nil_append, List.cons_append]; rfl)); skip)
 | (apply evQ_split; (case hg => rfl); (case hb => (simp only [List.getElem?_cons_succ, List.getElem?_cons_zero]; rfl)); (case hv => ((fail_if_success (with_reducible exact (rfl : (_ : QR) = (AV.d (.val (.bool true)) _, none)))); (fail_if_success (with_reducible exact (rfl : (_ : QR) = (AV.d (.val (.bool false)) _, none)))); rfl)); (case hT => (simp only [List.set_cons_succ, List.set_cons_zero]; rfl)); (case hF => (simp only [List.set_cons_succ, List.set_cons_zero]; rfl)); skip)
 | (apply evOps_one; (case hg => rfl); (case h => (simp [evStep, evPure, b3, b4, b5, a0, a1, a2, a3, a9, a10, a11, Xt.enc, h23, sp23, h56, sp56, decX, xt_eta, hA, hB', hC, hlt, hlt', he, he2, hlo', hhi']; with_reducible rfl)); skip)
 | (apply evOps_yes; (case hg => rfl); (case hb => (simp [gval, dstB, b3, b4, b5, a0, a1, a2, a3, a9, a10, a11, Xt.enc, h23, sp23, h56, sp56, decX, xt_eta, hA, hB', hC, hlt, hlt', he, he2, hlo', hhi']; done)); (case h => (simp [evStep, evPure, b3, b4, b5, a0, a1, a2, a3, a9, a10, a11, Xt.enc, h23, sp23, h56, sp56, decX, xt_eta, hA, hB', hC, hlt, hlt', he, he2, hlo', hhi']; with_reducible rfl)); skip)
 | (apply evOps_no; (case hg => rfl); (case hb => (simp [gval, dstB, b3, b4, b5, a0, a1, a2, a3, a9, a10, a11, Xt.enc, h23, sp23, h56, sp56, decX, xt_eta, hA, hB', hC, hlt, hlt', he, he2, hlo', hhi']; with_reducible rfl)); (case hne => (simp; done)); (case hd => (simp [dstB]; done)); skip)
 | (apply evOps_big; (case hg => rfl); (case hd => (simp [dstB]; done)); (case hb => (simp [evBig, evStep, evPure, b3, b4, b5, a0, a1, a2, a3, a9, a10, a11, Xt.enc, h23, sp23, h56, sp56, decX, xt_eta, hA, hB', hC, hlt, hlt', he, he2, hlo', hhi']; with_reducible rfl)); skip)
 | (apply evOps_bigYes; (case hg => rfl); (case hgv => (simp [gval, dstB, b3, b4, b5, a0, a1, a2, a3, a9, a10, a11, Xt.enc, h23, sp23, h56, sp56, decX, xt_eta, hA, hB', hC, hlt, hlt', he, he2, hlo', hhi']; done)); (case hd => (simp [dstB]; done)); (case hb => (simp [evBig, evStep, evPure, b3, b4, b5, a0, a1, a2, a3, a9, a10, a11, Xt.enc, h23, sp23, h56, sp56, decX, xt_eta, hA, hB', hC, hlt, hlt', he, he2, hlo', hhi']; with_reducible rfl)); skip)
 | (apply evOps_split; (case _hg => rfl); (case _ht => rfl); (case hb => (simp [dstB]; with_reducible rfl)); (case hv => ((fail_if_success (with_reducible exact (rfl : (_ : AV) = AV.d (.val (.bool true)) _))); (fail_if_success (with_reducible exact (rfl : (_ : AV) = AV.d (.val (.bool false)) _))); rfl)); skip)
 | (apply WP_cond; (case hx => (simp [St.eval, dstB, b3, b4, b5, a0, a1, a2, a3, a9, a10, a11, Xt.enc, h23, sp23, h56, sp56, decX, xt_eta, hA, hB', hC, hlt, hlt', he, he2, hlo', hhi']; with_reducible rfl)); (case hv => rfl); skip))
            refine hY (piecesX p q (l.take i)) ((partX e (max lo hi) (endX e), false)) (piecesX p q (l.drop (i + 1))) _ _ (by rw [hsp, hE]; simp) (hI _ σ1 _ (fun x hx => by
              have q1 : ¬ x = 2006 := by omega
              simp [dstB, q1]) (by simp [dstB]; try omega) (by simpa using hinv)) ?_
            intro σ2 henv hc hown hinv'
            clear hinv
            have hinv := hinv'
            clear hinv'
            simp only [put_env', put_own', put_ctr', put_none', setOwn_env', setOwn_own', setOwn_ctr', setCtr_env', setCtr_own', setCtr_ctr', entry, entryEnv, entryOwn, inAV, scAV, inOB] at hc
            have c0 : σ2.env 0 = .yld s g := by rw [henv]; simp [dstB, a0]
            have c1 : σ2.env 1 = .rp 1003 g3 0 0 := by rw [henv]; simp [dstB, a1]
            have c2 : σ2.env 2 = .rp 1004 g4 0 0 := by rw [henv]; simp [dstB, a2]
            have c3 : σ2.env 3 = .rp 1005 g5 0 0 := by rw [henv]; simp [dstB, a3]
            have c9 : σ2.env 9 = .d (.sl n (l.map Xt.enc)) false := by rw [henv]; simp [dstB, a9]
            have c10 : σ2.env 10 = .d (vi l.length) true := by rw [henv]; simp [dstB, a10]
            have c11 : σ2.env 11 = .d (vi i) true := by rw [henv]; simp [dstB, a11]
            have c6 : ∃ g6 m6, σ2.env 6 = .rp 2006 g6 0 0 ∧ σ2.own 2006 = some (.var 24 g6 m6 [.d (vi e.at') false, .d (vi e.start) false, .d (vi e.len) false, .d (vb e.un) false]) := ⟨_, _, by rw [henv]; simp [dstB]; rfl, by rw [hown 2006 (by decide)]; simp [dstB]; try rfl⟩
            have c7 : σ2.env 7 = .d (vi lo) true := by rw [henv]; simp [dstB]
            have c8 : σ2.env 8 = .d (vi hi) true := by rw [henv]; simp [dstB]
            have cG : σ2.env 61 = .d (.val (.bool true)) true := by rw [henv]; simp [dstB, hA, hB', hC]
            obtain ⟨g6, m6, e6, o6⟩ := c6
            clear b3 b4 b5 a0 a1 a2 a3 a9 a10 a11 henv hown
            obtain ⟨b3, b4, b5⟩ := hB _ _ hinv
            have a0 := c0
            have a1 := c1
            have a2 := c2
            have a3 := c3
            have a9 := c9
            have a10 := c10
            have a11 := c11
            have a6 := e6
            have p6 := o6
            have a7 := c7
            have a8 := c8
            clear c0 c1 c2 c3 c9 c10 c11 e6 o6 c7 c8
            have aG := cG
            clear cG
            show evOps _ _ _ _ _ _ _ _ _ _ _
            repeat' (first
 | (intro h; first | (exfalso; exact Bool.noConfusion h) | (simp only [decide_eq_true_eq, decide_eq_false_iff_not] at h) | skip)
 | (apply evOps_fin; (case hf => (simp only [finGo, app1]; rfl)); skip)
 | refine WP_seq ?_
 | refine WP_scope ?_
 | refine WP_block ?_
 | refine WP_ret ?_
 | refine WP_skip ?_
 | refine WP_exit ?_
 | (apply WP_region; (case hl => rfl); (case hc => (simp only [put_env', put_own', put_ctr', put_none', setOwn_env', setOwn_own', setOwn_ctr', setCtr_env', setCtr_own', setCtr_ctr', entry, entryEnv, entryOwn, inAV, scAV, inOB]; rfl)); (case hc' => (conv => lhs; simp only [List.size_toArray, List.length_cons, List.length_nil, Nat.zero_add, Nat.reduceAdd, Nat.add_assoc])); skip)
 | (apply WP_draw; (case hl => rfl); (case hds => (simp only [List.map_cons, List.map_nil]; rfl)); (case hc => (simp only [put_env', put_own', put_ctr', put_none', setOwn_env', setOwn_own', setOwn_ctr', setCtr_env', setCtr_own', setCtr_ctr', entry, entryEnv, entryOwn, inAV, scAV, inOB]; rfl)); (case hc' => (conv => lhs; simp only [List.size_toArray, List.length_cons, List.length_nil, Nat.zero_add, Nat.reduceAdd, Nat.add_assoc])); (case hD => rfl); (case hb => kernel_rfl); (case h1 => (simp only [List.take_succ_cons, List.take_zero]; rfl)); (case h2 => (simp only [List.drop_succ_cons, List.drop_zero]; rfl)); (case h3 => (simp only [List.take_succ_cons, List.take_zero]; rfl)); intro had; skip)
 | refine evOps_nil ?_
 | refine evQ_nil ?_
 | (apply evQ_one; (case had => assumption); (case hg => rfl); (case hd => (simp [dstB]; done)); (case h => (simp [evQuiet, evCallQ, known, njk, AV.isJunk, Op.operands, Call.operands, evEff, evStep, evPure, b3, b4, b5, a0, a1, a2, a3, a9, a10, a11, Xt.enc, h23, sp23, h56, sp56, decX, xt_eta, hA, hB', hC, a6, p6, a7, a8, aG]; with_reducible rfl)); (case hs => (simp; done)); (case hR => (simp only [List.nil_append, List.cons_append]; rfl)); skip)
 | (apply evQ_yes; (case had => assumption); (case hg => rfl); (case hb => (simp [gval, evEff, dstB, b3, b4, b5, a0, a1, a2, a3, a9, a10, a11, Xt.enc, h23, sp23, h56, sp56, decX, xt_eta, hA, hB', hC, a6, p6, a7, a8, aG]; done)); (case hd => (simp [dstB]; done)); (case h => (simp [evQuiet, evCallQ, known, njk, AV.isJunk, Op.operands, Call.operands, evEff, evStep, evPure, b3, b4, b5, a0, a1, a2, a3, a9, a10, a11, Xt.enc, h23, sp23, h56, sp56, decX, xt_eta, hA, hB', hC, a6, p6, a7, a8, aG]; with_reducible rfl)); (case hs => (simp; done)); (case hR => (simp only [List.nil_append, List.cons_append]; rfl)); skip)
 | (apply evQ_no; (case had => assumption); (case hg => rfl); (case hb => (simp [gval, evEff, dstB, b3, b4, b5, a0, a1, a2, a3, a9, a10, a11, Xt.enc, h23, sp23, h56, sp56, decX, xt_eta, hA, hB', hC, a6, p6, a7, a8, aG]; with_reducible rfl)); (case hne => (simp; done)); (case hd => (simp [dstB]; done)); (case hR => (simp only [List.nil_append, List.cons_append]; rfl)); skip)
 | (apply evQ_split; (case hg => rfl); (case hb => (simp only [List.getElem?_cons_succ, List.getElem?_cons_zero]; rfl)); (case hv => ((fail_if_success (with_reducible exact (rfl : (_ : QR) = (AV.d (.val (.bool true)) _, none)))); (fail_if_success (with_reducible exact (rfl : (_ : QR) = (AV.d (.val (.bool false)) _, none)))); rfl)); (case hT => (simp only [List.set_cons_succ, List.set_cons_zero]; rfl)); (case hF => (simp only [List.set_cons_succ, List.set_cons_zero]; rfl)); skip)
 | (apply evOps_one; (case hg => rfl); (case h => (simp [evStep, evPure, b3, b4, b5, a0, a1, a2, a3, a9, a10, a11, Xt.enc, h23, sp23, h56, sp56, decX, xt_eta, hA, hB', hC, a6, p6, a7, a8, aG]; with_reducible rfl)); skip)
 | (apply evOps_yes; (case hg => rfl); (case hb => (simp [gval, dstB, b3, b4, b5, a0, a1, a2, a3, a9, a10, a11, Xt.enc, h23, sp23, h56, sp56, decX, xt_eta, hA, hB', hC, a6, p6, a7, a8, aG]; done)); (case h => (simp [evStep, evPure, b3, b4, b5, a0, a1, a2, a3, a9, a10, a11, Xt.enc, h23, sp23, h56, sp56, decX, xt_eta, hA, hB', hC, a6, p6, a7, a8, aG]; with_reducible rfl)); skip)
 | (apply evOps_no; (case hg => rfl); (case hb => (simp [gval, dstB, b3, b4, b5, a0, a1, a2, a3, a9, a10, a11, Xt.enc, h23, sp23, h56, sp56, decX, xt_eta, hA, hB', hC, a6, p6, a7, a8, aG]; with_reducible rfl)); (case hne => (simp; done)); (case hd => (simp [dstB]; done)); skip)
 | (apply evOps_big; (case hg => rfl); (case hd => (simp [dstB]; done)); (case hb => (simp [evBig, evStep, evPure, b3, b4, b5, a0, a1, a2, a3, a9, a10, a11, Xt.enc, h23, sp23, h56, sp56, decX, xt_eta, hA, hB', hC, a6, p6, a7, a8, aG]; with_reducible rfl)); skip)
 | (apply evOps_bigYes; (case hg => rfl); (case hgv => (simp [gval, dstB, b3, b4, b5, a0, a1, a2, a3, a9, a10, a11, Xt.enc, h23, sp23, h56, sp56, decX, xt_eta, hA, hB', hC, a6, p6, a7, a8, aG]; done)); (case hd => (simp [dstB]; done)); (case hb => (simp [evBig, evStep, evPure, b3, b4, b5, a0, a1, a2, a3, a9, a10, a11, Xt.enc, h23, sp23, h56, sp56, decX, xt_eta, hA, hB', hC, a6, p6, a7, a8, aG]; with_reducible rfl)); skip)
 | (apply evOps_split; (case _hg => rfl); (case _ht => rfl); (case hb => (simp [dstB]; with_reducible rfl)); (case hv => ((fail_if_success (with_reducible exact (rfl : (_ : AV) = AV.d (.val (.bool true)) _))); (fail_if_success (with_reducible exact (rfl : (_ : AV) = AV.d (.val (.bool false)) _))); rfl)); skip)
 | (apply WP_cond; (case hx => (simp [St.eval, dstB, b3, b4, b5, a0, a1, a2, a3, a9, a10, a11, Xt.enc, h23, sp23, h56, sp56, decX, xt_eta, hA, hB', hC, a6, p6, a7, a8, aG]; with_reducible rfl)); (case hv => rfl); skip))
            refine ⟨l.length - (i + 1), gcF [0, 1, 2, 3, 9, 10, 11] [] 2000 3000 _, by omega, gcF_forget _ _ _ _ _, i + 1, by omega, rfl, ?_, ?_, ?_, ?_, ?_, ?_, ?_, ?_, ?_⟩
            · simp [gcF, dstB]; omega
            · simp [gcF, restrictEnv, dstB, a0]
            · simp [gcF, restrictEnv, dstB, a1]
            · simp [gcF, restrictEnv, dstB, a2]
            · simp [gcF, restrictEnv, dstB, a3]
            · simp [gcF, restrictEnv, dstB, a9]
            · simp [gcF, restrictEnv, dstB, a10]
            · simp [gcF, restrictEnv, dstB, a11, hwi]
            · rw [htk, hE]
              refine hI _ σ2 _ (fun x hx => ?_) ?_ (by simpa using hinv)
              · have q1 : ¬ x = 2006 := by omega
                have q2 : ¬ 2000 ≤ x := by omega
                simp [gcF, dstB, q1, q2]
              · simp [gcF, dstB]; try omega
          · have hE : piecesE p q e = [] := by simp [piecesE, hlo, hhi, hA, hB', hC]
            repeat' (first
 | (intro h; first | (exfalso; exact Bool.noConfusion h) | (simp only [decide_eq_true_eq, decide_eq_false_iff_not] at h) | skip)
 | (apply evOps_fin; (case hf => (simp only [finGo, app1]; rfl)); skip)
 | refine WP_seq ?_
 | refine WP_scope ?_
 | refine WP_block ?_
 | refine WP_ret ?_
 | refine WP_skip ?_
 | refine WP_exit ?_
 | (apply WP_region; (case hl => rfl); (case hc => (simp only [put_env', put_own', put_ctr', put_none', setOwn_env', setOwn_own', setOwn_ctr', setCtr_env', setCtr_own', setCtr_ctr', entry, entryEnv, entryOwn, inAV, scAV, inOB]; rfl)); (case hc' => (conv => lhs; simp only [List.size_toArray, List.length_cons, List.length_nil, Nat.zero_add, Nat.reduceAdd, Nat.add_assoc])); skip)
 | (apply WP_draw; (case hl => rfl); (case hds => (simp only [List.map_cons, List.map_nil]; rfl)); (case hc => (simp only [put_env', put_own', put_ctr', put_none', setOwn_env', setOwn_own', setOwn_ctr', setCtr_env', setCtr_own', setCtr_ctr', entry, entryEnv, entryOwn, inAV, scAV, inOB]; rfl)); (case hc' => (conv => lhs; simp only [List.size_toArray, List.length_cons, List.length_nil, Nat.zero_add, Nat.reduceAdd, Nat.add_assoc])); (case hD => rfl); (case hb => kernel_rfl); (case h1 => (simp only [List.take_succ_cons, List.take_zero]; rfl)); (case h2 => (simp only [List.drop_succ_cons, List.drop_zero]; rfl)); (case h3 => (simp only [List.take_succ_cons, List.take_zero]; rfl)); intro had; skip)
 | refine evOps_nil ?_
 | refine evQ_nil ?_
 | (apply evQ_one; (case had => assumption); (case hg => rfl); (case hd => (simp [dstB]; done)); (case h => (simp [evQuiet, evCallQ, known, njk, AV.isJunk, Op.operands, Call.operands, evEff, evStep, evPure, b3, b4, b5, a0, a1, a2, a3, a9, a10, a11, Xt.enc, h23, sp23, h56, sp56, decX, xt_eta, hA, hB', hC, hlt, hlt', he, he2, hlo', hhi']; with_reducible rfl)); (case hs => (simp; done)); (case hR => (simp only [List.nil_append, List.cons_append]; rfl)); skip)
 | (apply evQ_yes; (case had => assumption); (case hg => rfl); (case hb => (simp [gval, evEff, dstB, b3, b4, b5, a0, a1, a2, a3, a9, a10, a11, Xt.enc, h23, sp23, h56, sp56, decX, xt_eta, hA, hB', hC, hlt, hlt', he, he2, hlo', hhi']; done)); (case hd => (simp [dstB]; done)); (case h => (simp [evQuiet, evCallQ, known, njk, AV.isJunk, Op.operands, Call.operands, evEff, evStep, evPure, b3, b4, b5, a0, a1, a2, a3, a9, a10, a11, Xt.enc, h23, sp23, h56, sp56, decX, xt_eta, hA, hB', hC, hlt, hlt', he, he2, hlo', hhi']; with_reducible rfl)); (case hs => (simp; done)); (case hR => (simp only [List.nil_append, List.cons_append]; rfl)); skip)
 | (apply evQ_no; (case had => assumption); (case hg => rfl); (case hb => (simp [gval, evEff, dstB, b3, b4, b5, a0, a1, a2, a3, a9, a10, a11, Xt.enc, h23, sp23, h56, sp56, decX, xt_eta, hA, hB', hC, hlt, hlt', he, he2, hlo', hhi']; with_reducible rfl)); (case hne => (simp; done)); (case hd => (simp [dstB]; done)); (case hR => (simp only [List.nil_append, List.cons_append]; rfl)); skip)
 | (apply evQ_split; (case hg => rfl); (case hb => (simp only [List.getElem?_cons_succ, List.getElem?_cons_zero]; rfl)); (case hv => ((fail_if_success (with_reducible exact (rfl : (_ : QR) = (AV.d (.val (.bool true)) _, none)))); (fail_if_success (with_reducible exact (rfl : (_ : QR) = (AV.d (.val (.bool false)) _, none)))); rfl)); (case hT => (simp only [List.set_cons_succ, List.set_cons_zero]; rfl)); (case hF => (simp only [List.set_cons_succ, List.set_cons_zero]; rfl)); skip)
 | (apply evOps_one; (case hg => rfl); (case h => (simp [evStep, evPure, b3, b4, b5, a0, a1, a2, a3, a9, a10, a11, Xt.enc, h23, sp23, h56, sp56, decX, xt_eta, hA, hB', hC, hlt, hlt', he, he2, hlo', hhi']; with_reducible rfl)); skip)
 | (apply evOps_yes; (case hg => rfl); (case hb => (simp [gval, dstB, b3, b4, b5, a0, a1, a2, a3, a9, a10, a11, Xt.enc, h23, sp23, h56, sp56, decX, xt_eta, hA, hB', hC, hlt, hlt', he, he2, hlo', hhi']; done)); (case h => (simp [evStep, evPure, b3, b4, b5, a0, a1, a2, a3, a9, a10, a11, Xt.enc, h23, sp23, h56, sp56, decX, xt_eta, hA, hB', hC, hlt, hlt', he, he2, hlo', hhi']; with_reducible rfl)); skip)
 | (apply evOps_no; (case hg => rfl); (case hb => (simp [gval, dstB, b3, b4, b5, a0, a1, a2, a3, a9, a10, a11, Xt.enc, h23, sp23, h56, sp56, decX, xt_eta, hA, hB', hC, hlt, hlt', he, he2, hlo', hhi']; with_reducible rfl)); (case hne => (simp; done)); (case hd => (simp [dstB]; done)); skip)
 | (apply evOps_big; (case hg => rfl); (case hd => (simp [dstB]; done)); (case hb => (simp [evBig, evStep, evPure, b3, b4, b5, a0, a1, a2, a3, a9, a10, a11, Xt.enc, h23, sp23, h56, sp56, decX, xt_eta, hA, hB', hC, hlt, hlt', he, he2, hlo', hhi']; with_reducible rfl)); skip)
 | (apply evOps_bigYes; (case hg => rfl); (case hgv => (simp [gval, dstB, b3, b4, b5, a0, a1, a2, a3, a9, a10, a11, Xt.enc, h23, sp23, h56, sp56, decX, xt_eta, hA, hB', hC, hlt, hlt', he, he2, hlo', hhi']; done)); (case hd => (simp [dstB]; done)); (case hb => (simp [evBig, evStep, evPure, b3, b4, b5, a0, a1, a2, a3, a9, a10, a11, Xt.enc, h23, sp23, h56, sp56, decX, xt_eta, hA, hB', hC, hlt, hlt', he, he2, hlo', hhi']; with_reducible rfl)); skip)
 | (apply evOps_split; (case _hg => rfl); (case _ht => rfl); (case hb => (simp [dstB]; with_reducible rfl)); (case hv => ((fail_if_success (with_reducible exact (rfl : (_ : AV) = AV.d (.val (.bool true)) _))); (fail_if_success (with_reducible exact (rfl : (_ : AV) = AV.d (.val (.bool false)) _))); rfl)); skip)
 | (apply WP_cond; (case hx => (simp [St.eval, dstB, b3, b4, b5, a0, a1, a2, a3, a9, a10, a11, Xt.enc, h23, sp23, h56, sp56, decX, xt_eta, hA, hB', hC, hlt, hlt', he, he2, hlo', hhi']; with_reducible rfl)); (case hv => rfl); skip))
            refine ⟨l.length - (i + 1), gcF [0, 1, 2, 3, 9, 10, 11] [] 2000 3000 _, by omega, gcF_forget _ _ _ _ _, i + 1, by omega, rfl, ?_, ?_, ?_, ?_, ?_, ?_, ?_, ?_, ?_⟩
            · simp [gcF, dstB]; omega
            · simp [gcF, restrictEnv, dstB, a0]
            · simp [gcF, restrictEnv, dstB, a1]
            · simp [gcF, restrictEnv, dstB, a2]
            · simp [gcF, restrictEnv, dstB, a3]
            · simp [gcF, restrictEnv, dstB, a9]
            · simp [gcF, restrictEnv, dstB, a10]
            · simp [gcF, restrictEnv, dstB, a11, hwi]
            · rw [htk, hE]
              refine hI _ σ1 _ (fun x hx => ?_) ?_ (by simpa using hinv)
              · have q1 : ¬ x = 2006 := by omega
                have q2 : ¬ 2000 ≤ x := by omega
                simp [gcF, dstB, q1, q2]
              · simp [gcF, dstB]; try omega
    · have hie : i = l.length := by omega
      subst hie
      rw [List.take_length] at hinv
      have hlt' : ¬ (l.length : Int) < (l.length : Int) := by omega
      repeat' (first
 | (intro h; first | (exfalso; exact Bool.noConfusion h) | (simp only [decide_eq_true_eq, decide_eq_false_iff_not] at h) | skip)
 | (apply evOps_fin; (case hf => (simp only [finGo, app1]; rfl)); skip)
 | refine WP_seq ?_
 | refine WP_scope ?_
 | refine WP_block ?_
 | refine WP_ret ?_
 | refine WP_skip ?_
 | refine WP_exit ?_
 | (apply WP_region; (case hl => rfl); (case hc => (simp only [put_env', put_own', put_ctr', put_none', setOwn_env', setOwn_own', setOwn_ctr', setCtr_env', setCtr_own', setCtr_ctr', entry, entryEnv, entryOwn, inAV, scAV, inOB]; rfl)); (case hc' => (conv => lhs; simp only [List.size_toArray, List.length_cons, List.length_nil, Nat.zero_add, Nat.reduceAdd, Nat.add_assoc])); skip)
 | (apply WP_draw; (case hl => rfl); (case hds => (simp only [List.map_cons, List.map_nil]; rfl)); (case hc => (simp only [put_env', put_own', put_ctr', put_none', setOwn_env', setOwn_own', setOwn_ctr', setCtr_env', setCtr_own', setCtr_ctr', entry, entryEnv, entryOwn, inAV, scAV, inOB]; rfl)); (case hc' => (conv => lhs; simp only [List.size_toArray, List.length_cons, List.length_nil, Nat.zero_add, Nat.reduceAdd, Nat.add_assoc])); (case hD => rfl); (case hb => kernel_rfl); (case h1 => (simp only [List.take_succ_cons, List.take_zero]; rfl)); (case h2 => (simp only [List.drop_succ_cons, List.drop_zero]; rfl)); (case h3 => (simp only [List.take_succ_cons, List.take_zero]; rfl)); intro had; skip)
 | refine evOps_nil ?_
 | refine evQ_nil ?_
 | (apply evQ_one; (case had => assumption); (case hg => rfl); (case hd => (simp [dstB]; done)); (case h => (simp [evQuiet, evCallQ, known, njk, AV.isJunk, Op.operands, Call.operands, evEff, evStep, evPure, b3, b4, b5, a0, a1, a2, a3, a9, a10, a11]; with_reducible rfl)); (case hs => (simp; done)); (case hR => (simp only [List.nil_append, List.cons_append]; rfl)); skip)
 | (apply evQ_yes; (case had => assumption); (case hg => rfl); (case hb => (simp [gval, evEff, dstB, b3, b4, b5, a0, a1, a2, a3, a9, a10, a11]; done)); (case hd => (simp [dstB]; done)); (case h => (simp [evQuiet, evCallQ, known, njk, AV.isJunk, Op.operands, Call.operands, evEff, evStep, evPure, b3, b4, b5, a0, a1, a2, a3, a9, a10, a11]; with_reducible rfl)); (case hs => (simp; done)); (case hR => (simp only [List.nil_append, List.cons_append]; rfl)); skip)
 | (apply evQ_no; (case had => assumption); (case hg => rfl); (case hb => (simp [gval, evEff, dstB, b3, b4, b5, a0, a1, a2, a3, a9, a10, a11]; with_reducible rfl)); (case hne => (simp; done)); (case hd => (simp [dstB]; done)); (case hR => (simp only [List.nil_append, List.cons_append]; rfl)); skip)
 | (apply evQ_split; (case hg => rfl); (case hb => (simp only [List.getElem?_cons_succ, List.getElem?_cons_zero]; rfl)); (case hv => ((fail_if_success (with_reducible exact (rfl : (_ : QR) = (AV.d (.val (.bool true)) _, none)))); (fail_if_success (with_reducible exact (rfl : (_ : QR) = (AV.d (.val (.bool false)) _, none)))); rfl)); (case hT => (simp only [List.set_cons_succ, List.set_cons_zero]; rfl)); (case hF => (simp only [List.set_cons_succ, List.set_cons_zero]; rfl)); skip)
 | (apply evOps_one; (case hg => rfl); (case h => (simp [evStep, evPure, b3, b4, b5, a0, a1, a2, a3, a9, a10, a11]; with_reducible rfl)); skip)
 | (apply evOps_yes; (case hg => rfl); (case hb => (simp [gval, dstB, b3, b4, b5, a0, a1, a2, a3, a9, a10, a11]; done)); (case h => (simp [evStep, evPure, b3, b4, b5, a0, a1, a2, a3, a9, a10, a11]; with_reducible rfl)); skip)
 | (apply evOps_no; (case hg => rfl); (case hb => (simp [gval, dstB, b3, b4, b5, a0, a1, a2, a3, a9, a10, a11]; with_reducible rfl)); (case hne => (simp; done)); (case hd => (simp [dstB]; done)); skip)
 | (apply evOps_big; (case hg => rfl); (case hd => (simp [dstB]; done)); (case hb => (simp [evBig, evStep, evPure, b3, b4, b5, a0, a1, a2, a3, a9, a10, a11]; with_reducible rfl)); skip)
 | (apply evOps_bigYes; (case hg => rfl); (case hgv => (simp [gval, dstB, b3, b4, b5, a0, a1, a2, a3, a9, a10, a11]; done)); (case hd => (simp [dstB]; done)); (case hb => (simp [evBig, evStep, evPure, b3, b4, b5, a0, a1, a2, a3, a9, a10, a11]; with_reducible rfl)); skip)
 | (apply evOps_split; (case _hg => rfl); (case _ht => rfl); (case hb => (simp [dstB]; with_reducible rfl)); (case hv => ((fail_if_success (with_reducible exact (rfl : (_ : AV) = AV.d (.val (.bool true)) _))); (fail_if_success (with_reducible exact (rfl : (_ : AV) = AV.d (.val (.bool false)) _))); rfl)); skip)
 | (apply WP_cond; (case hx => (simp [St.eval, dstB, b3, b4, b5, a0, a1, a2, a3, a9, a10, a11]; with_reducible rfl)); (case hv => rfl); skip))
      simp only []
      refine ⟨_, (by simp [resVals, Try.results55]; rfl), hK _ ?_ rfl ?_⟩
      · simp [dstB]; try omega
      · exact hI _ σ1 _ (fun x hx => by simp [dstB]) (by simp [dstB]; try omega) hinv
end Go.Dv
