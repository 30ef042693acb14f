/-
  DERIVED, MY OWN. A part of the proof of ExtentBlocks: see the last text (Row).
-/
import Derived.Test.YteldlckmleblkaaDvA
import Derived.RangeFuncNested
import Derived.RangeFuncLeaves
import Derived.OrdersIn
import Derived.Orders
set_option linter.all false
/-
  DERIVED, MY OWN. BLOCKS OF A CALL's OWN BECOME DATA.
-/

set_option autoImplicit false
namespace Go.Dv
open Go Go.RowKit

def St.kill (σ : St) (ss : List Nat) : St :=
  match ss with
  | [] => σ
  | ss => { σ with own := fun s => if s ∈ ss then none else σ.own s }

def toD0 (σ : St) : AV → Option (Data × Bool × List Nat)
  | .d (.val v) _ => some (.val v, true, [])
  | .d x fr => some (x, fr, [])
  | .rs s g off len =>
    match σ.own s with
    | some (.row _ _ g' _ mt fr xs) => if g' = g ∧ off + len ≤ xs.length then some (.sl false ((xs.drop off).take len), fr && !mt, [s]) else none
    | _ => none
  | _ => none

def mapD (f : AV → Option (Data × Bool × List Nat)) : List AV → Option (List Data × Bool × List Nat)
  | [] => some ([], true, [])
  | a :: l =>
    match f a, mapD f l with
    | some (x, fr, ss), some (xs, fr', ss') => some (x :: xs, fr && fr', ss ++ ss')
    | _, _ => none

def toD1 (σ : St) : AV → Option (Data × Bool × List Nat)
  | .rp s g i k =>
    match σ.own s with
    | some (.var _ g' mt cs) =>
      if g' = g ∧ i = 0 ∧ k = 0 then
        match mapD (toD0 σ) cs with
        | some (xs, fr, ss) => some (.ptr xs, fr && !mt, s :: ss)
        | none => none
      else none
    | _ => none
  | x => toD0 σ x

def toD (σ : St) : AV → Option (Data × Bool × List Nat)
  | .ifc t x => match toD1 σ x with | some (y, fr, ss) => some (.ifc t y, fr, ss) | none => none
  | .clo f caps => match mapD (toD1 σ) caps with | some (xs, fr, ss) => some (.clo f xs, fr, ss) | none => none
  | x => toD1 σ x

/-- Are these blocks made by the call itself? -/
def killable (σ : St) (ss : List Nat) : Bool :=
  ss.all fun s => match σ.own s with
    | some (.row _ _ _ _ mt _ _) => !mt
    | some (.var _ _ mt _) => !mt
    | _ => false

section
variable {P : Program} {G : Gh} {V : Nat → Prop} {A0 : Nat → Prop} {M : Nat → Option MR} {w0 w : World} {X : Aux} {n : Nat} {σ : St} {a : Act}

/-- Where data lies that was read through blocks of ours. -/
def Thru (G : Gh) (w : World) (fr : Bool) (ss : List Nat) (b : Nat) : Prop :=
  (G.F w b ∨ ∃ s ∈ ss, ∃ L, G.loc s = some L ∧ L.blk = b) ∧ (fr = true → G.B ≤ b)

theorem Thru.mono {fr fr' : Bool} {ss ss' : List Nat} {b : Nat} (h : Thru G w fr ss b) (hf : fr' = true → fr = true) (hs : ∀ s ∈ ss, s ∈ ss') : Thru G w fr' ss' b :=
  ⟨h.1.imp id fun ⟨s, hm, L, h1, h2⟩ => ⟨s, hs s hm, L, h1, h2⟩, fun e => h.2 (hf e)⟩

theorem rep_thru {fr fr' : Bool} {ss ss' : List Nat} {x : Data} {u : Value} (h : Rep (Thru G w fr ss) w x u) (hf : fr' = true → fr = true) (hs : ∀ s ∈ ss, s ∈ ss') :
    Rep (Thru G w fr' ss') w x u := h.mono fun _ hb => ⟨hb.mono hf hs, rfl⟩

theorem toD0_sound (hO : ∀ s ob, σ.own s = some ob → ∃ L, G.loc s = some L ∧ OwnOk G w L ob) {v : AV} {u : Value} {x : Data} {fr : Bool} {ss : List Nat}
    (hv : VR G w v u) (h : toD0 σ v = some (x, fr, ss)) : Rep (Thru G w fr ss) w x u := by
  unfold toD0 at h
  split at h
  · obtain ⟨rfl, rfl, rfl⟩ := by simpa using h
    cases hv with
    | d _ _ _ hr => cases hr with | val _ h1 => exact .val _ h1
  · obtain ⟨rfl, rfl, rfl⟩ := by simpa using h
    cases hv with
    | d _ _ _ hr => exact hr.mono fun b hb => ⟨⟨.inl hb.1, hb.2⟩, rfl⟩
  · rename_i s g off len
    split at h
    · rename_i ty esz g' app mt fr' xs ho
      split at h
      · rename_i hc
        obtain ⟨rfl, hle⟩ := hc
        simp only [Option.some.injEq, Prod.mk.injEq] at h
        obtain ⟨rfl, rfl, rfl⟩ := h
        obtain ⟨L, hL, hok⟩ := hO s _ ho
        obtain ⟨hgn, ad, cap, rfl, hcap, had, hsize⟩ := hv.rs_live hL hok.gen_eq
        obtain ⟨h1, h2, h3, h3', arr, h4, h5, h6, h7⟩ := hok
        have hwin : ∀ (i : Nat) c, ((xs.drop off).take len)[i]? = some c → i < len ∧ xs[off + i]? = some c := by
          intro i c hi
          rw [List.getElem?_take] at hi
          split at hi
          · rw [List.getElem?_drop] at hi; exact ⟨by assumption, hi⟩
          · cases hi
        have hlen : ((xs.drop off).take len).length = len := by simp; omega
        have key : ∀ (i : Nat) c, ((xs.drop off).take len)[i]? = some c → ∀ (k : Nat) d, c[k]? = some d →
            ∃ v, w.cell? (ad.add (i * esz + k)) = some v ∧ VR G w (.d d fr') v ∧ ad.block = L.blk := by
          intro i c hi k d hk
          obtain ⟨hil, hx⟩ := hwin i c hi
          obtain ⟨v, hv, hvr⟩ := (h7 _ c hx).2 k d hk
          refine ⟨v, ?_, hvr, by rw [had (by omega)]⟩
          rw [had (by omega), addr_add, cell_of_arr h4, ← hv, h2, Nat.add_mul]
          congr 1
          omega
        have := Rep.sl (F := Thru G w (fr' && !mt) [s]) (w := w) ((xs.drop off).take len) ad esz cap (fun i k => (w.cell? (ad.add (i * esz + k))).getD undef) (fun i c hi => (h7 _ c (hwin i c hi).2).1) (by rw [hlen]; exact hcap)
          (fun i c hi k d hk => by
            obtain ⟨v, hv, hvr, hb⟩ := key i c hi k d hk
            exact ⟨⟨.inr ⟨s, by simp, L, hL, hb.symm⟩, fun e => hb ▸ h3 (by simp at e; exact e.2)⟩, by simp [hv]⟩)
          (fun i c hi k d hk => by
            obtain ⟨v, hv, hvr, hb⟩ := key i c hi k d hk
            simp only [hv, Option.getD_some]
            cases hvr with
            | d _ _ _ hr => exact hr.mono fun b hb => ⟨⟨.inl hb.1, fun e => hb.2 (by simp at e; exact e.1)⟩, rfl⟩)
        rwa [hlen] at this
      · cases h
    · cases h
  · cases h

theorem mapD_sound {f : AV → Option (Data × Bool × List Nat)} (hf : ∀ v u x fr ss, VR G w v u → f v = some (x, fr, ss) → Rep (Thru G w fr ss) w x u) :
    ∀ {cs : List AV} {xs : List Data} {fr : Bool} {ss : List Nat}, mapD f cs = some (xs, fr, ss) → xs.length = cs.length ∧
      ∀ (k : Nat) x, xs[k]? = some x → ∃ v, cs[k]? = some v ∧ ∀ u, VR G w v u → Rep (Thru G w fr ss) w x u
  | [], xs, fr, ss, h => by
    simp [mapD] at h
    obtain ⟨rfl, rfl, rfl⟩ := h
    exact ⟨rfl, fun k x hk => by simp at hk⟩
  | a :: l, xs, fr, ss, h => by
    simp only [mapD] at h
    cases ha : f a with
    | none => simp [ha] at h
    | some p =>
      obtain ⟨x, f1, s1⟩ := p
      cases hl : mapD f l with
      | none => simp [ha, hl] at h
      | some q =>
        obtain ⟨ys, f2, s2⟩ := q
        simp [ha, hl] at h
        obtain ⟨rfl, rfl, rfl⟩ := h
        obtain ⟨h1, h2⟩ := mapD_sound hf hl
        refine ⟨by simp [h1], fun k y hk => ?_⟩
        cases k with
        | zero =>
          simp at hk
          subst hk
          exact ⟨a, rfl, fun u hu => rep_thru (hf a u x f1 s1 hu ha) (fun h => by simp at h; exact h.1) (fun s hs => by simp [hs])⟩
        | succ k =>
          simp at hk
          obtain ⟨v, hv, hr⟩ := h2 k y hk
          exact ⟨v, by simpa using hv, fun u hu => rep_thru (hr u hu) (fun h => by simp at h; exact h.2) (fun s hs => by simp [hs])⟩

theorem toD1_sound (hO : ∀ s ob, σ.own s = some ob → ∃ L, G.loc s = some L ∧ OwnOk G w L ob) {v : AV} {u : Value} {x : Data} {fr : Bool} {ss : List Nat}
    (hv : VR G w v u) (h : toD1 σ v = some (x, fr, ss)) : Rep (Thru G w fr ss) w x u := by
  unfold toD1 at h
  split at h
  · rename_i s g i k
    split at h
    · rename_i ty g' mt cs ho
      split at h
      · rename_i hc
        obtain ⟨rfl, rfl, rfl⟩ := hc
        split at h
        · rename_i xs fr' ss' hm
          simp only [Option.some.injEq, Prod.mk.injEq] at h
          obtain ⟨rfl, rfl, rfl⟩ := h
          obtain ⟨L, hL, hok⟩ := hO s _ ho
          obtain ⟨hgn, rfl⟩ := hv.rp_live hL hok.gen_eq
          obtain ⟨h1, h2, h3, arr, h4, h5, h6, h7⟩ := hok
          obtain ⟨hl, hg⟩ := mapD_sound (fun v u x fr ss hv h => toD0_sound hO hv h) hm
          have key : ∀ (k : Nat) x, xs[k]? = some x → ∃ u, arr[L.base + k]? = some u ∧ Rep (Thru G w (fr' && !mt) (s :: ss')) w x u := by
            intro k x hk
            obtain ⟨v, hv, hr⟩ := hg k x hk
            obtain ⟨u, hu, hvr, _⟩ := h7 k v hv
            exact ⟨u, hu, rep_thru (hr u hvr) (fun h => by simp at h; exact h.1) (fun s hs => by simp [hs])⟩
          refine .ptr _ _ (fun k => arr.getD (L.base + k) undef) (fun k d hk => ?_) (fun k d hk => ?_)
          · obtain ⟨u, hu, _⟩ := key k d hk
            refine ⟨⟨.inr ⟨s, by simp, L, hL, rfl⟩, fun e => h3 (by simp at e; exact e.2)⟩, ?_⟩
            rw [addr_add, cell_of_arr h4]
            simp [hu]
          · obtain ⟨u, hu, hr⟩ := key k d hk
            simp [hu, hr]
        · cases h
      · cases h
    · cases h
  · exact toD0_sound hO hv h

theorem toD_sound (hO : ∀ s ob, σ.own s = some ob → ∃ L, G.loc s = some L ∧ OwnOk G w L ob) {v : AV} {u : Value} {x : Data} {fr : Bool} {ss : List Nat}
    (hv : VR G w v u) (h : toD σ v = some (x, fr, ss)) : Rep (Thru G w fr ss) w x u := by
  unfold toD at h
  split at h
  · rename_i t y
    cases hv with
    | ifc _ _ z hz =>
      split at h
      · rename_i y' fr' ss' hy
        obtain ⟨rfl, rfl, rfl⟩ := by simpa using h
        exact .ifc _ _ _ (toD1_sound hO hz hy)
      · cases h
  · rename_i f caps
    cases hv with
    | clo _ _ us hs hr =>
      split at h
      · rename_i xs fr' ss' hm
        obtain ⟨rfl, rfl, rfl⟩ := by simpa using h
        obtain ⟨hl, hg⟩ := mapD_sound (fun v u x fr ss hv h => toD1_sound hO hv h) hm
        refine .clo _ _ _ (by rw [hs, hl]) (fun k d hk => ?_)
        obtain ⟨v, hv, hr'⟩ := hg k d hk
        exact hr' _ (hr k v hv)
      · cases h
  · exact toD1_sound hO hv h

theorem killable_sound (hO : ∀ s ob, σ.own s = some ob → ∃ L, G.loc s = some L ∧ OwnOk G w L ob) {ss : List Nat} (h : killable σ ss = true) :
    ∀ s ∈ ss, ∀ L, G.loc s = some L → G.B ≤ L.blk := by
  intro s hs L hL
  have := List.all_eq_true.1 h s hs
  split at this
  · rename_i ho
    obtain ⟨L2, hL2, hok⟩ := hO s _ ho
    rw [hL] at hL2
    obtain rfl := Option.some.inj hL2
    exact hok.2.2.1 (by simpa using this)
  · rename_i ho
    obtain ⟨L2, hL2, hok⟩ := hO s _ ho
    rw [hL] at hL2
    obtain rfl := Option.some.inj hL2
    exact hok.2.2.1 (by simpa using this)
  · cases this

/-- Blocks that were read as data are so from now on. -/
theorem Rel.kill (h : Rel X G V A0 M w0 n σ a w) (ss : List Nat) (hn : ∀ s ∈ ss, ∀ L, G.loc s = some L → G.B ≤ L.blk) :
    ∃ G', Rel X G' V A0 M w0 n (σ.kill ss) a w ∧ Ext G w G' w ∧ G'.B = G.B ∧ G'.A = G.A ∧ (∀ b, (∃ s ∈ ss, ∃ L, G.loc s = some L ∧ L.blk = b) → G'.F w b) ∧
      (∀ s, s ∉ ss → G'.loc s = G.loc s) := by
  have hk : ∀ s, (σ.kill ss).own s = if s ∈ ss then none else σ.own s := by
    intro s
    unfold St.kill
    cases ss <;> simp
  obtain ⟨G', hrel, hext, hB, hA, hl, hl2⟩ := h.forget (σ' := σ.kill ss) (fun t => .inl (by unfold St.kill; split <;> rfl)) (fun s => by
    rw [hk]; split
    · exact .inr rfl
    · exact .inl rfl)
  refine ⟨G', hrel, hext, hB, hA, fun b ⟨s, hs, L, hL, hb⟩ => ⟨.inr ?_, ?_, fun s' L' hL' hbb => ?_⟩, fun s hs => ?_⟩
  · rw [hB, ← hb]; exact hn s hs L hL
  · obtain ⟨ob, ho⟩ := h.loc s L hL
    obtain ⟨L2, hL2, hok, _⟩ := h.own s ob ho
    rw [hL] at hL2
    obtain rfl := Option.some.inj hL2
    rw [← hb]; exact hok.lt
  · have h1 := hl s' L' hL'
    obtain ⟨ob, ho⟩ := hrel.loc s' L' hL'
    rw [hk] at ho
    split at ho
    · cases ho
    · rename_i hns
      have hne : s ≠ s' := fun e => hns (e ▸ hs)
      exact h.inj s s' L L' hL h1 hne (hb.trans hbb.symm)
  · cases ho : σ.own s with
    | some ob => exact hl2 s ob (by rw [hk, if_neg hs, ho])
    | none =>
      cases h1 : G.loc s with
      | some L => obtain ⟨ob, hob⟩ := h.loc s L h1; rw [ho] at hob; cases hob
      | none =>
        cases h2 : G'.loc s with
        | some L => rw [hl s L h2] at h1; cases h1
        | none => rfl

theorem Thru.kill {G' : Gh} {fr : Bool} {ss ss' : List Nat} {b : Nat} (hx : Ext G w G' w) (hF : ∀ b, (∃ s ∈ ss', ∃ L, G.loc s = some L ∧ L.blk = b) → G'.F w b)
    (hs : ∀ s ∈ ss, s ∈ ss') (h : Thru G w fr ss b) : G'.FF w fr b :=
  ⟨h.1.elim (fun h => (hx.F b h).1) (fun ⟨s, hm, L, h1, h2⟩ => hF b ⟨s, hs s hm, L, h1, h2⟩), fun e => hx.B ▸ h.2 e⟩

end
end Go.Dv

/-
  DERIVED, MY OWN. CONTRACTS OF FUNCTIONS OVER DATA, AND CALLS BY THEM.
-/

set_option autoImplicit false
namespace Go.Dv
open Go Go.RowKit

/-- An argument: a value of one cell; an aggregate; a slice, or a pointer, whose memory the call may write. -/
inductive In where
  | sc (x : Data)
  | ag (cs : List Data)
  | row (esz : Nat) (xs : List (List Data))
  | var (cs : List Data)
  deriving Inhabited

def In.isMut : In → Bool
  | .row _ _ | .var _ => true
  | _ => false

/-- A result: a value of one cell; an aggregate; a slice in memory of its own. 'fr': no part lies in memory that was there before. -/
inductive Res where
  | sc (x : Data) (fr : Bool)
  | ag (cs : List Data) (fr : Bool)
  | own (ty esz : Nat) (fr : Bool) (xs : List (List Data))
  deriving Inhabited

/-- What a call gives: its results, and what its written argument holds. -/
structure Out where
  res : List Res
  wr : Option (Bool × List (List Data))
  deriving Inhabited

/-- The elements of a row, as data. -/
def RepRow (F : Nat → Prop) (w : World) (e base : Nat) (xs : List (List Data)) (arr : Array Value) : Prop :=
  base + xs.length * e ≤ arr.size ∧ ∀ (i : Nat) c, xs[i]? = some c → c.length = e ∧
    ∀ (k : Nat) d, c[k]? = some d → ∃ u, arr[base + (i * e + k)]? = some u ∧ Rep F w d u

def mbM (mb : Option (Nat × MR)) (b : Nat) : Option MR :=
  match mb with
  | some (b', m) => if b = b' then some m else none
  | none => none

def InOk (A : Nat → Prop) (mb : Option (Nat × MR)) (w : World) : In → Value → Prop
  | .sc x, v => Rep A w x v
  | .ag cs, v => ∃ vs : Array Value, v = .agg vs ∧ vs.size = cs.length ∧ ∀ (k : Nat) d, cs[k]? = some d → ∃ u, vs[k]? = some u ∧ Rep A w d u
  | .row esz xs, v => ∃ blk base ad cap arr ty, v = .slice (some ad) xs.length cap ∧ (0 < cap → ad = ⟨blk, base, none⟩) ∧ xs.length ≤ cap ∧ base + cap * esz ≤ arr.size ∧
      mb = some (blk, ⟨arr, ty, base, base + xs.length * esz⟩) ∧ RepRow A w esz base xs arr
  | .var cs, v => ∃ blk base arr ty, v = .pointer (some ⟨blk, base, none⟩) ∧ mb = some (blk, ⟨arr, ty, base, base + cs.length⟩) ∧ base + cs.length ≤ arr.size ∧
      ∀ (k : Nat) d, cs[k]? = some d → ∃ u, arr[base + k]? = some u ∧ Rep A w d u

def Good (A : Nat → Prop) (mb : Option (Nat × MR)) (w : World) : Prop :=
  (∀ b, A b → b < w.heap.size ∧ mbM mb b = none) ∧ ∀ b m, mbM mb b = some m → b < w.heap.size ∧ w.heap[b]? = some (.cells m.arr m.ty (0, 0))

/-- Where a result may lie. -/
def FR (A : Nat → Prop) (B : Nat) (w' : World) (bs : List Nat) (fr : Bool) (b : Nat) : Prop :=
  ((A b ∧ fr = false) ∨ B ≤ b) ∧ b < w'.heap.size ∧ b ∉ bs

def ResOk (A : Nat → Prop) (B : Nat) (w' : World) (bs : List Nat) : Res → Value → Option Nat → Prop
  | .sc x fr, v, none => Rep (FR A B w' bs fr) w' x v
  | .ag cs fr, v, none => ∃ vs : Array Value, v = .agg vs ∧ vs.size = cs.length ∧ ∀ (k : Nat) d, cs[k]? = some d → ∃ u, vs[k]? = some u ∧ Rep (FR A B w' bs fr) w' d u
  | .own ty esz fr xs, v, some b => ∃ ad cap arr, v = .slice (some ad) xs.length cap ∧ (0 < cap → ad = ⟨b, 0, none⟩) ∧ xs.length ≤ cap ∧ cap * esz ≤ arr.size ∧ B ≤ b ∧
      w'.heap[b]? = some (.cells arr ty (0, 0)) ∧ RepRow (FR A B w' bs fr) w' esz 0 xs arr ∧ OneBlk w' b
  | _, _, _ => False

def RessOk (A : Nat → Prop) (B : Nat) (w' : World) (rs : List Res) (us : List Value) (os : List (Option Nat)) : Prop :=
  us.length = rs.length ∧ os.length = rs.length ∧ (os.filterMap id).Nodup ∧
  ∀ (k : Nat) r u o, rs[k]? = some r → us[k]? = some u → os[k]? = some o → ResOk A B w' (os.filterMap id) r u o

def MutOk (F : Bool → Nat → Prop) (w' : World) (mb : Option (Nat × MR)) (i : In) (m : Option (Bool × List (List Data))) : Prop :=
  match i, mb, m with
  | .row esz xs, some (b, m), some (fr, xs') => xs'.length = xs.length ∧ ∃ arr, w'.heap[b]? = some (.cells arr m.ty (0, 0)) ∧ arr.size = m.arr.size ∧ RepRow (F fr) w' esz m.lo xs' arr
  | .var cs, some (b, m), some (fr, xs') => ∃ cs', xs' = [cs'] ∧ cs'.length = cs.length ∧ ∃ arr, w'.heap[b]? = some (.cells arr m.ty (0, 0)) ∧ arr.size = m.arr.size ∧
      ∀ (k : Nat) d, cs'[k]? = some d → ∃ u, arr[m.lo + k]? = some u ∧ Rep (F fr) w' d u
  | .row _ _, _, _ | .var _, _, _ => False
  | _, _, _ => True

def pack (us : List Value) : Value :=
  match us with
  | [v] => v
  | vs => .tuple vs.toArray

/-- **The contract**: called with values that read as 'ins', in whatever memory, function f returns values that read as 'out', and leaves all older memory alone but its written argument. -/
def At (P : Program) (f : FuncId) (ins : List In) (out : Out) : Prop :=
  ∀ (w : World) (A : Nat → Prop) (mb : Option (Nat × MR)) (vs : List Value),
    (ins.filter In.isMut).length ≤ 1 → Good A mb w → (mb.isSome = true → ∃ i ∈ ins, i.isMut = true) →
    vs.length = ins.length → (∀ (k : Nat) i v, ins[k]? = some i → vs[k]? = some v → InOk A mb w i v) →
    Calls P f vs.toArray w fun e w' => ∃ us os, e = .returned (pack us) ∧ Past w.heap.size (mbM mb) w w' ∧ RessOk A w.heap.size w' out.res us os ∧
      ∀ i ∈ ins, MutOk (FR A w.heap.size w' (os.filterMap id)) w' mb i out.wr

structure FSpec where
  modes : List Bool
  run : List In → Option Out

abbrev Tbl := FuncId → Option FSpec

def TblOk (P : Program) (T : Tbl) : Prop := ∀ f sp ins out, T f = some sp → sp.run ins = some out → At P f ins out

/-! ### a call -/
def argImm (σ : St) (v : AV) : Option (In × List Nat × List Nat) :=
  match v with
  | .agg cs => (mapD (toD0 σ) cs).map fun (xs, _, ss) => (.ag xs, ss, [])
  | v => (toD σ v).map fun (x, _, ss) => (.sc x, ss, [])

def argMut (σ : St) (v : AV) : Option (In × List Nat × List Nat) :=
  match v with
  | .rs s g off len =>
    match σ.own s with
    | some (.row _ esz g' _ _ _ xs) => if g' = g ∧ off + len ≤ xs.length then some (.row esz ((xs.drop off).take len), [], [s]) else none
    | _ => none
  | .rp s g i k =>
    match σ.own s with
    | some (.var _ g' _ cs) => if g' = g ∧ i = 0 ∧ k = 0 then (datas cs).map fun (ds, _) => (.var ds, [], [s]) else none
    | _ => none
  | _ => none

def argIn (σ : St) (m : Bool) (v : AV) : Option (In × List Nat × List Nat) := if m then argMut σ v else argImm σ v

def argsIn (σ : St) : List Bool → List AV → Option (List In × List Nat × List Nat)
  | [], [] => some ([], [], [])
  | m :: ms, v :: vs =>
    match argIn σ m v, argsIn σ ms vs with
    | some (i, ss, mm), some (is, ss', mm') => some (i :: is, ss ++ ss', mm ++ mm')
    | _, _ => none
  | _, _ => none

/-- What a written argument holds behind the call. -/
def setMut (σ : St) (v : AV) (fr' : Bool) (xs' : List (List Data)) : St :=
  match v with
  | .rs s _ off len =>
    match σ.own s with
    | some (.row ty esz g app mt fr xs) => σ.setOwn s (some (.row ty esz g app mt (fr && fr') (xs.take off ++ xs' ++ xs.drop (off + len))))
    | _ => σ
  | .rp s _ _ _ =>
    match σ.own s, xs' with
    | some (.var ty g mt _), [cs'] => σ.setOwn s (some (.var ty g mt (lift fr' cs')))
    | _, _ => σ
  | _ => σ

def setMuts (σ : St) : List Bool → List AV → Option (Bool × List (List Data)) → St
  | m :: ms, v :: vs, some (fr, xs) => if m then setMut σ v fr xs else setMuts σ ms vs (some (fr, xs))
  | _, _, _ => σ

def Res.isOwn : Res → Bool
  | .own _ _ _ _ => true
  | _ => false

def resAV (s g : Nat) : List Res → List AV
  | [] => []
  | .sc x fr :: rs => .d x fr :: resAV s g rs
  | .ag cs fr :: rs => .agg (lift fr cs) :: resAV s g rs
  | .own _ _ _ xs :: rs => .rs s g 0 xs.length :: resAV s g rs

def resOwn (s g : Nat) : List Res → St → St
  | [], σ => σ
  | .own ty esz fr xs :: rs, σ => resOwn s g rs (σ.setOwn s (some (.row ty esz g true false fr xs)))
  | _ :: rs, σ => resOwn s g rs σ

def packAV (vs : List AV) : AV :=
  match vs with
  | [v] => v
  | vs => .tup vs

/-- May a result lie in an argument's memory? -/
def Res.shares : Res → Bool
  | .sc (.val _) _ => false
  | .sc _ fr | .ag _ fr | .own _ _ fr _ => !fr

def Out.shares (o : Out) : Bool := o.res.any Res.shares || (match o.wr with | some (fr, _) => !fr | none => false)

def evCall (T : Tbl) (σ : St) (s g : Nat) (f : FuncId) (vs : List AV) : Option (AV × St) :=
  match T f with
  | none => none
  | some sp =>
    match argsIn σ sp.modes vs with
    | none => none
    | some (ins, ss, mm) =>
      match sp.run ins with
      | none => none
      | some out =>
        if mm.length ≤ 1 ∧ (out.res.filter Res.isOwn).length ≤ 1 ∧ (∀ s ∈ mm, s ∉ ss) ∧ (out.shares = true → killable σ ss = true) then
          let σ1 := if out.shares then σ.kill ss else σ
          let σ2 := setMuts σ1 sp.modes vs out.wr
          some (packAV (resAV s g out.res), resOwn s g out.res σ2)
        else none

end Go.Dv

/-
  DERIVED, MY OWN. A CALL BY ITS CONTRACT, HELD AGAINST THE MACHINE.
-/

set_option autoImplicit false
namespace Go.Dv
open Go Go.RowKit

section
variable {P : Program} {G : Gh} {V : Nat → Prop} {A0 : Nat → Prop} {M : Nat → Option MR} {w0 w : World} {X : Aux} {n : Nat} {σ : St} {a : Act}

/-- Where a call's arguments may lie. -/
def AThru (G : Gh) (w : World) (ss : List Nat) (b : Nat) : Prop := G.F w b ∨ ∃ s ∈ ss, ∃ L, G.loc s = some L ∧ L.blk = b

theorem argIn_imm (hO : ∀ s ob, σ.own s = some ob → ∃ L, G.loc s = some L ∧ OwnOk G w L ob) {v : AV} {u : Value} {i : In} {ss mm : List Nat} (hv : VR G w v u)
    (h : argIn σ false v = some (i, ss, mm)) : mm = [] ∧ i.isMut = false ∧ ∀ mb ss', (∀ s ∈ ss, s ∈ ss') → InOk (AThru G w ss') mb w i u := by
  have hd : ∀ {v : AV} {u : Value} {x : Data} {fr : Bool} {ss ss' : List Nat}, Rep (Thru G w fr ss) w x u → (∀ s ∈ ss, s ∈ ss') → Rep (AThru G w ss') w x u :=
    fun hr hs => hr.mono fun b hb => ⟨hb.1.imp id fun ⟨s, h1, h2⟩ => ⟨s, hs s h1, h2⟩, rfl⟩
  simp only [argIn, Bool.false_eq_true, if_false] at h
  unfold argImm at h
  split at h
  · rename_i cs
    cases hm : mapD (toD0 σ) cs with
    | none => simp [hm] at h
    | some p =>
      obtain ⟨xs, fr, s1⟩ := p
      simp [hm] at h
      obtain ⟨rfl, rfl, rfl⟩ := h
      refine ⟨rfl, rfl, fun mb ss' hs => ?_⟩
      obtain ⟨vs, rfl, hsz, hr⟩ := hv.agg_inv
      obtain ⟨hl, hg⟩ := mapD_sound (fun v u x fr ss hv h => toD0_sound hO hv h) hm
      refine ⟨vs, rfl, by rw [hsz, hl], fun k d hk => ?_⟩
      obtain ⟨v, hv, hr'⟩ := hg k d hk
      obtain ⟨u, hu, _, hvr⟩ := hr k v hv
      exact ⟨u, hu, hd (v := v) (u := u) (hr' u hvr) hs⟩
  · cases hm : toD σ v with
    | none => simp [hm] at h
    | some p =>
      obtain ⟨x, fr, s1⟩ := p
      simp [hm] at h
      obtain ⟨rfl, rfl, rfl⟩ := h
      exact ⟨rfl, rfl, fun mb ss' hs => hd (v := v) (u := u) (toD_sound hO hv hm) hs⟩

/-- The imm arguments, one by one. -/
theorem argsIn_imm (hO : ∀ s ob, σ.own s = some ob → ∃ L, G.loc s = some L ∧ OwnOk G w L ob) : ∀ (ms : List Bool) (vs : List AV) (us : List Value) (ins : List In) (ss mm : List Nat),
    (∀ m ∈ ms, m = false) → us.length = vs.length → (∀ (k : Nat) v u, vs[k]? = some v → us[k]? = some u → VR G w v u) → argsIn σ ms vs = some (ins, ss, mm) →
    mm = [] ∧ ins.length = us.length ∧ (∀ i ∈ ins, i.isMut = false) ∧ ∀ mb ss', (∀ s ∈ ss, s ∈ ss') → ∀ (k : Nat) i u, ins[k]? = some i → us[k]? = some u → InOk (AThru G w ss') mb w i u
  | [], [], us, ins, ss, mm, _, hl, _, h => by
    simp [argsIn] at h
    obtain ⟨rfl, rfl, rfl⟩ := h
    exact ⟨rfl, by simpa using hl.symm, by simp, fun mb ss' _ k i u hi => by simp at hi⟩
  | [], _ :: _, _, _, _, _, _, _, _, h => by simp [argsIn] at h
  | _ :: _, [], _, _, _, _, _, _, _, h => by simp [argsIn] at h
  | m :: ms, v :: vs, [], _, _, _, _, hl, _, _ => by simp at hl
  | m :: ms, v :: vs, u :: us, ins, ss, mm, hm, hl, hv, h => by
    obtain rfl := hm m (by simp)
    simp only [argsIn] at h
    cases h1 : argIn σ false v with
    | none => simp [h1] at h
    | some p =>
      obtain ⟨i, s1, m1⟩ := p
      cases h2 : argsIn σ ms vs with
      | none => simp [h1, h2] at h
      | some q =>
        obtain ⟨is, s2, m2⟩ := q
        simp [h1, h2] at h
        obtain ⟨rfl, rfl, rfl⟩ := h
        obtain ⟨rfl, hi, hin⟩ := argIn_imm hO (hv 0 v u rfl rfl) h1
        obtain ⟨rfl, hil, him, hins⟩ := argsIn_imm hO ms vs us is s2 m2 (fun m hm' => hm m (by simp [hm'])) (by simpa using hl) (fun k v u h1 h2 => hv (k + 1) v u (by simpa using h1) (by simpa using h2)) h2
        refine ⟨rfl, by simp [hil], ?_, fun mb ss' hs k i' u' hk hu => ?_⟩
        · intro j hj
          simp at hj
          rcases hj with rfl | hj
          · exact hi
          · exact him j hj
        · cases k with
          | zero =>
            simp at hk hu
            subst hk; subst hu
            exact hin mb ss' (fun s h => hs s (by simp [h]))
          | succ k =>
            simp at hk hu
            exact hins mb ss' (fun s h => hs s (by simp [h])) k i' u' hk hu

theorem argIn_mut_form {v : AV} {i : In} {ss mm : List Nat} (h : argIn σ true v = some (i, ss, mm)) : ss = [] ∧ ∃ s, mm = [s] := by
  simp only [argIn, if_true] at h
  unfold argMut at h
  split at h
  · split at h
    · split at h
      · simp at h; exact ⟨h.2.1, _, h.2.2.symm⟩
      · cases h
    · cases h
  · split at h
    · split at h
      · rename_i cs _ _
        cases hd : datas cs with
        | none => simp [hd] at h
        | some p => simp [hd] at h; exact ⟨h.2.1, _, h.2.2.symm⟩
      · cases h
    · cases h
  · cases h

/-- At most one argument is written: the list falls in three. -/
theorem argsIn_split : ∀ (ms : List Bool) (vs : List AV) (ins : List In) (ss mm : List Nat), argsIn σ ms vs = some (ins, ss, mm) → mm.length ≤ 1 →
    (∀ m ∈ ms, m = false) ∨ ∃ ms1 ms2 vs1 v vs2 ins1 i ins2 ss1 ss2 s, ms = ms1 ++ true :: ms2 ∧ vs = vs1 ++ v :: vs2 ∧ ins = ins1 ++ i :: ins2 ∧ ss = ss1 ++ ss2 ∧ mm = [s] ∧
      argsIn σ ms1 vs1 = some (ins1, ss1, []) ∧ argIn σ true v = some (i, [], [s]) ∧ argsIn σ ms2 vs2 = some (ins2, ss2, []) ∧ (∀ m ∈ ms1, m = false) ∧ (∀ m ∈ ms2, m = false) := by
  have hnil : ∀ (ms : List Bool) (vs : List AV) (ins : List In) (ss : List Nat), argsIn σ ms vs = some (ins, ss, []) → ∀ m ∈ ms, m = false := by
    intro ms
    induction ms with
    | nil => intro vs ins ss _ m hm; simp at hm
    | cons m ms ih =>
      intro vs ins ss h
      cases vs with
      | nil => simp [argsIn] at h
      | cons v vs =>
        simp only [argsIn] at h
        cases h1 : argIn σ m v with
        | none => simp [h1] at h
        | some p =>
          obtain ⟨i, s1, m1⟩ := p
          cases h2 : argsIn σ ms vs with
          | none => simp [h1, h2] at h
          | some q =>
            obtain ⟨is, s2, m2⟩ := q
            simp [h1, h2] at h
            obtain ⟨_, _, rfl, rfl⟩ := h
            intro m' hm'
            simp at hm'
            rcases hm' with rfl | hm'
            · cases m' with
              | false => rfl
              | true => obtain ⟨_, s, hs⟩ := argIn_mut_form h1; cases hs
            · exact ih vs is s2 h2 m' hm'
  intro ms
  induction ms with
  | nil => intro vs ins ss mm h _; exact .inl (by simp)
  | cons m ms ih =>
    intro vs ins ss mm h hl
    cases vs with
    | nil => simp [argsIn] at h
    | cons v vs =>
      simp only [argsIn] at h
      cases h1 : argIn σ m v with
      | none => simp [h1] at h
      | some p =>
        obtain ⟨i, s1, m1⟩ := p
        cases h2 : argsIn σ ms vs with
        | none => simp [h1, h2] at h
        | some q =>
          obtain ⟨is, s2, m2⟩ := q
          simp [h1, h2] at h
          obtain ⟨rfl, rfl, rfl⟩ := h
          cases m with
          | true =>
            obtain ⟨rfl, s, rfl⟩ := argIn_mut_form h1
            have hm2 : m2 = [] := by
              cases m2 with
              | nil => rfl
              | cons _ _ => simp at hl
            subst hm2
            exact .inr ⟨[], ms, [], v, vs, [], i, is, [], s2, s, rfl, rfl, rfl, by simp, rfl, by simp [argsIn], h1, h2, by simp, hnil _ _ _ _ h2⟩
          | false =>
            have hm1 : m1 = [] := by
              simp only [argIn, Bool.false_eq_true, if_false] at h1
              unfold argImm at h1
              split at h1
              · rename_i cs
                cases hm : mapD (toD0 σ) cs with
                | none => simp [hm] at h1
                | some p => simp [hm] at h1; exact h1.2.2
              · cases hm : toD σ v with
                | none => simp [hm] at h1
                | some p => simp [hm] at h1; exact h1.2.2
            subst hm1
            rcases ih vs is s2 m2 h2 (by simpa using hl) with hall | ⟨ms1, ms2, vs1, v', vs2, ins1, i', ins2, ss1, ss2, s, rfl, rfl, rfl, rfl, rfl, h3, h4, h5, h6, h7⟩
            · exact .inl (by simpa using hall)
            · refine .inr ⟨false :: ms1, ms2, v :: vs1, v', vs2, i :: ins1, i', ins2, s1 ++ ss1, ss2, s, rfl, rfl, rfl, by simp, by simp, ?_, h4, h5, by simpa using h6, h7⟩
              simp [argsIn, h1, h3]

end
end Go.Dv

/-
  DERIVED, MY OWN. A CALL BY ITS CONTRACT, HELD AGAINST THE MACHINE (second part).
-/

set_option autoImplicit false
namespace Go.Dv
open Go Go.RowKit

section
variable {P : Program} {G : Gh} {V : Nat → Prop} {A0 : Nat → Prop} {M : Nat → Option MR} {w0 w : World} {X : Aux} {n : Nat} {σ : St} {a : Act}

/-- Some blocks of ours are made, or turned, at once. -/
theorem Rel.many (h : Rel X G V A0 M w0 n σ a w) {G' : Gh} {V' : Nat → Prop} {w' : World} (new : Nat → Option (OB × Loc))
    (hp : Past G.B M w0 w') (hB : G'.B = G.B) (hA : G'.A = G.A) (hU : ∀ s g, G'.U s g → V' g) (hext : Ext G w G' w') (hsz : w.heap.size ≤ w'.heap.size)
    (hloc : ∀ s, G'.loc s = match new s with | some (_, L) => some L | none => G.loc s)
    (hok : ∀ s ob L, new s = some (ob, L) → OwnOk G' w' L ob ∧ G'.U s L.gen ∧ ((G.B ≤ L.blk ∧ ob.mt = false) ∨ ∃ m, M L.blk = some m ∧ L.base = m.lo ∧ L.base + obLen ob ≤ m.hi))
    (hblk : ∀ s L, new s = none → G.loc s = some L → w'.heap[L.blk]? = w.heap[L.blk]?)
    (hinj : ∀ s s' L L', G'.loc s = some L → G'.loc s' = some L' → s ≠ s' → L.blk ≠ L'.blk) {σ' : St} (henv : σ'.env = σ.env)
    (hown : ∀ s, σ'.own s = match new s with | some (ob, _) => some ob | none => σ.own s) : Rel X G' V' A0 M w0 n σ' a w' := by
  refine ⟨hB ▸ hp, hB.trans h.isB, hA.trans h.isA, by rw [hB]; exact Nat.le_trans h.hB hsz, by rw [hA, hB]; exact h.hA, hU, ⟨h.defers.1.ext hext, h.defers.2⟩, h.tmps, fun t => by rw [henv]; exact (h.env t).ext hext, fun s ob ho => ?_, fun s L hl => ?_, hinj, fun s L ob hl ho => ?_, fun f hf => (h.aux f hf).ext hext⟩
  · rw [hown] at ho
    cases hn : new s with
    | some p =>
      obtain ⟨ob', L⟩ := p
      rw [hn] at ho
      obtain rfl := Option.some.inj ho
      obtain ⟨h1, h2, _⟩ := hok s _ L hn
      exact ⟨L, by rw [hloc, hn], h1, h2⟩
    | none =>
      rw [hn] at ho
      obtain ⟨L, hL, hk, hu⟩ := h.own s ob ho
      exact ⟨L, by rw [hloc, hn]; exact hL, hk.ext hext (hblk s L hn hL), hext.U _ _ hu⟩
  · rw [hloc] at hl
    rw [hown]
    cases hn : new s with
    | some p => exact ⟨p.1, rfl⟩
    | none => rw [hn] at hl; exact h.loc s L hl
  · rw [hloc] at hl
    rw [hown] at ho
    rw [hB]
    cases hn : new s with
    | some p =>
      obtain ⟨ob', L'⟩ := p
      rw [hn] at hl ho
      obtain rfl := Option.some.inj hl
      obtain rfl := Option.some.inj ho
      exact (hok s _ L' hn).2.2
    | none =>
      rw [hn] at hl ho
      exact h.old s L ob hl ho

/-- The written argument of a call: where it lies; and what the call's answer makes of it. -/
theorem argMut_sound (h : Rel X G V A0 M w0 n σ a w) {v : AV} {u : Value} {i : In} {s : Nat} (hv : VR G w v u) (hi : argIn σ true v = some (i, [], [s])) :
    ∃ L ob m, σ.own s = some ob ∧ G.loc s = some L ∧ w.heap[L.blk]? = some (.cells m.arr m.ty (0, 0)) ∧ L.base ≤ m.lo ∧ m.hi ≤ L.base + obLen ob ∧ i.isMut = true ∧
      (∀ A : Nat → Prop, (∀ b, G.F w b → A b) → InOk A (some (L.blk, m)) w i u) ∧
      ∀ (G' : Gh) (w' : World) (F : Bool → Nat → Prop) (fr : Bool) (xs' : List (List Data)), Ext G w G' w' → (∀ b, F fr b → G'.FF w' fr b) → MutOk F w' (some (L.blk, m)) i (some (fr, xs')) →
        (∀ arr', w'.heap[L.blk]? = some (.cells arr' m.ty (0, 0)) → ∀ j, (j < m.lo ∨ m.hi ≤ j) → arr'[j]? = m.arr[j]?) →
        ∃ ob', (∀ σ1 : St, σ1.own s = some ob → setMut σ1 v fr xs' = σ1.setOwn s (some ob')) ∧ obLen ob' = obLen ob ∧ ob'.mt = ob.mt ∧ OwnOk G' w' L ob' := by
  simp only [argIn, if_true] at hi
  unfold argMut at hi
  split at hi
  · rename_i s0 g off len
    split at hi
    · rename_i ty esz g' app mt fr0 xs ho
      split at hi
      · rename_i hc
        obtain ⟨rfl, hle⟩ := hc
        simp only [Option.some.injEq, Prod.mk.injEq, List.cons.injEq, true_and, and_true] at hi
        obtain ⟨rfl, rfl⟩ := hi
        obtain ⟨L, hL, hok, hLU⟩ := h.own s0 _ ho
        obtain ⟨hgn, ad, cap, rfl, hcap, had, hsize⟩ := hv.rs_live hL hok.gen_eq
        obtain ⟨h1, h2, h3, h3', arr, h4, h5, h6, h7⟩ := hok
        have hlen : ((xs.drop off).take len).length = len := by simp; omega
        have hwin : ∀ (i : Nat) c, ((xs.drop off).take len)[i]? = some c → i < len ∧ xs[off + i]? = some c := by
          intro i c hi
          rw [List.getElem?_take] at hi
          split at hi
          · rw [List.getElem?_drop] at hi; exact ⟨by assumption, hi⟩
          · cases hi
        have hmul : (off + len) * esz ≤ xs.length * esz := Nat.mul_le_mul_right _ hle
        rw [Nat.add_mul] at hmul
        refine ⟨L, _, ⟨arr, ty, L.base + off * esz, L.base + off * esz + len * esz⟩, ho, hL, h4, by simp, by simp only [obLen]; omega, rfl, fun A hA => ?_, fun G' w' F fr xs' hext hF hm hout => ?_⟩
        · refine ⟨L.blk, L.base + off * esz, ad, cap, arr, ty, by rw [hlen], fun hp => by rw [had hp, h2], by rw [hlen]; exact hcap, ?_, by rw [hlen], ?_⟩
          · rw [h5]
            rw [h2, Nat.add_mul] at hsize
            omega
          · refine ⟨by rw [hlen]; rw [h5]; omega, fun i c hi => ?_⟩
            obtain ⟨hil, hx⟩ := hwin i c hi
            obtain ⟨l1, l2⟩ := h7 _ c hx
            refine ⟨l1, fun k d hk => ?_⟩
            obtain ⟨v, hv, hvr⟩ := l2 k d hk
            refine ⟨v, ?_, ?_⟩
            · rw [← hv, Nat.add_mul]; congr 1; omega
            · cases hvr with
              | d _ _ _ hr => exact hr.mono fun b hb => ⟨hA b hb.1, rfl⟩
        · obtain ⟨hxl, arr', ha1, ha2, ha3, ha4⟩ := hm
          rw [hlen] at hxl
          have hl2 : (xs.take off ++ xs' ++ xs.drop (off + len)).length = xs.length := by simp [hxl]; omega
          refine ⟨.row ty esz g' app mt (fr0 && fr) (xs.take off ++ xs' ++ xs.drop (off + len)), fun σ1 hσ => by simp [setMut, hσ], by simp only [obLen, hl2], rfl,
            h1, h2, fun hm => hext.B ▸ h3 hm, fun ha => ⟨(h3' ha).1, (h3' ha).2.1, .mk ha1 fun j u hj => ?_⟩, arr', ha1, by rw [ha2]; exact h5, by rw [hl2]; exact h6, fun i c hi => ?_⟩
          · by_cases hin : L.base + off * esz ≤ j ∧ j < L.base + off * esz + len * esz
            · have he : 0 < esz := by
                rcases Nat.eq_zero_or_pos esz with h0 | h0
                · subst h0; simp at hin; omega
                · exact h0
              obtain ⟨q, hq⟩ : ∃ q, j = L.base + off * esz + q := ⟨j - (L.base + off * esz), by omega⟩
              have hqi : q / esz < xs'.length := by rw [hxl]; exact Nat.div_lt_of_lt_mul (by rw [Nat.mul_comm]; omega)
              obtain ⟨l1, l2⟩ := ha4 _ _ (List.getElem?_eq_getElem hqi)
              have hqk : q % esz < (xs'[q / esz]).length := by rw [l1]; exact Nat.mod_lt _ he
              obtain ⟨u', hu', hr⟩ := l2 _ _ (List.getElem?_eq_getElem hqk)
              have e2 : q / esz * esz + q % esz = q := by rw [Nat.mul_comm]; exact Nat.div_add_mod q _
              simp only [e2] at hu'
              rw [← hq, hj] at hu'
              obtain rfl := Option.some.inj hu'
              exact hr.oneCell
            · rw [hout arr' ha1 j (by simp only; omega)] at hj
              exact (h3' ha).2.2 arr ty _ h4 j u hj
          rw [← hxl, get_splice _ _ _ _ (by omega)] at hi
          split at hi
          · rename_i hin
            obtain ⟨l1, l2⟩ := ha4 _ c hi
            refine ⟨l1, fun k d hk => ?_⟩
            obtain ⟨v, hv, hr⟩ := l2 k d hk
            refine ⟨v, ?_, .d _ _ _ (hr.mono fun b hb => ⟨?_, rfl⟩)⟩
            · have hie : i * esz = off * esz + (i - off) * esz := by rw [← Nat.add_mul]; congr 1; omega
              rw [← hv]
              congr 1
              simp only
              omega
            · have := hF b hb
              exact ⟨this.1, fun e => this.2 (by simp at e; exact e.2)⟩
          · rename_i hin
            obtain ⟨l1, l2⟩ := h7 i c hi
            refine ⟨l1, fun k d hk => ?_⟩
            obtain ⟨v, hv, hvr⟩ := l2 k d hk
            have hkl : k < esz := by have := (List.getElem?_eq_some_iff.1 hk).1; omega
            refine ⟨v, ?_, (hvr.weaken fun h => by simp at h; exact h.1).ext hext⟩
            rw [hout arr' ha1, hv]
            simp only
            rcases Nat.lt_or_ge i off with hlt | hge
            · have := idx_lt hkl hlt; omega
            · have h4' : off + len ≤ i := by omega
              have : (off + len) * esz ≤ i * esz := Nat.mul_le_mul_right _ h4'
              rw [Nat.add_mul] at this
              omega
      · cases hi
    · cases hi
  · rename_i s0 g i0 k0
    split at hi
    · rename_i ty g' mt cs ho
      split at hi
      · rename_i hc
        obtain ⟨rfl, rfl, rfl⟩ := hc
        cases hd : datas cs with
        | none => simp [hd] at hi
        | some p =>
          obtain ⟨ds, fr0⟩ := p
          simp only [hd, Option.map_some, Option.some.injEq, Prod.mk.injEq, List.cons.injEq, true_and, and_true] at hi
          obtain ⟨rfl, rfl⟩ := hi
          obtain ⟨L, hL, hok, hLU⟩ := h.own s0 _ ho
          obtain ⟨hgn, rfl⟩ := hv.rp_live hL hok.gen_eq
          obtain ⟨h1, h2, h3, arr, h4, h5, h6, h7⟩ := hok
          obtain ⟨hdl, hdg⟩ := datas_get hd
          refine ⟨L, _, ⟨arr, ty, L.base, L.base + ds.length⟩, ho, hL, h4, Nat.le_refl _, by simp only [obLen]; omega, rfl, fun A hA => ?_, fun G' w' F fr xs' hext hF hm hout => ?_⟩
          · refine ⟨L.blk, L.base, arr, ty, by simp, rfl, by rw [h5, hdl]; exact h6, fun k d hk => ?_⟩
            obtain ⟨fr', hc, _⟩ := hdg k d hk
            obtain ⟨v, hv, hvr, _⟩ := h7 k _ hc
            refine ⟨v, hv, ?_⟩
            cases hvr with
            | d _ _ _ hr => exact hr.mono fun b hb => ⟨hA b hb.1, rfl⟩
          · obtain ⟨cs', rfl, hcl, arr', ha1, ha2, ha3⟩ := hm
            refine ⟨.var ty g' mt (lift fr cs'), fun σ1 hσ => by simp [setMut, hσ], by simp only [obLen, lift, List.length_map]; omega, rfl,
              h1, by rw [h2]; simp [lift, hcl, hdl], fun hm => hext.B ▸ h3 hm, arr', ha1, by rw [ha2]; exact h5, by simp [lift, hcl, hdl]; exact h6, fun k b hk => ?_⟩
            obtain ⟨x, hx, rfl⟩ := lift_get hk
            obtain ⟨v, hv, hr⟩ := ha3 k x hx
            exact ⟨v, hv, .d _ _ _ (hr.mono fun b hb => ⟨hF b hb, rfl⟩), hr.oneCell⟩
      · cases hi
    · cases hi
  · cases hi

end
end Go.Dv

/-
  DERIVED, MY OWN. A CALL BY ITS CONTRACT, HELD AGAINST THE MACHINE (third part).
-/

set_option autoImplicit false
namespace Go.Dv
open Go Go.RowKit

section
variable {P : Program} {G : Gh} {V : Nat → Prop} {A0 : Nat → Prop} {M : Nat → Option MR} {w0 w : World} {X : Aux} {n : Nat} {σ : St} {a : Act}

theorem setMuts_false : ∀ (ms : List Bool) (vs : List AV) (σ : St) (m : Option (Bool × List (List Data))), (∀ b ∈ ms, b = false) → setMuts σ ms vs m = σ
  | [], _, _, _, _ => by simp [setMuts]
  | _ :: _, [], _, _, _ => by simp [setMuts]
  | m :: ms, v :: vs, σ, none, _ => by simp [setMuts]
  | m :: ms, v :: vs, σ, some (fr, xs), h => by
    obtain rfl := h m (by simp)
    simp only [setMuts, Bool.false_eq_true, if_false]
    exact setMuts_false ms vs σ _ (fun b hb => h b (by simp [hb]))

theorem setMuts_split : ∀ (ms1 : List Bool) (vs1 : List AV) (σ : St) (fr : Bool) (xs : List (List Data)) (ms2 : List Bool) (v : AV) (vs2 : List AV), (∀ b ∈ ms1, b = false) → ms1.length = vs1.length →
    setMuts σ (ms1 ++ true :: ms2) (vs1 ++ v :: vs2) (some (fr, xs)) = setMut σ v fr xs
  | [], [], _, _, _, _, _, _, _, _ => by simp [setMuts]
  | [], _ :: _, _, _, _, _, _, _, _, h => by simp at h
  | _ :: _, [], _, _, _, _, _, _, _, h => by simp at h
  | m :: ms1, v1 :: vs1, σ, fr, xs, ms2, v, vs2, hm, hl => by
    obtain rfl := hm m (by simp)
    simp only [List.cons_append, setMuts, Bool.false_eq_true, if_false]
    exact setMuts_split ms1 vs1 σ fr xs ms2 v vs2 (fun b hb => hm b (by simp [hb])) (by simpa using hl)

theorem argsIn_len : ∀ (ms : List Bool) (vs : List AV) (ins : List In) (ss mm : List Nat), argsIn σ ms vs = some (ins, ss, mm) → ms.length = vs.length ∧ ins.length = vs.length
  | [], [], ins, ss, mm, h => by simp [argsIn] at h; obtain ⟨rfl, _⟩ := h; exact ⟨rfl, rfl⟩
  | [], _ :: _, _, _, _, h => by simp [argsIn] at h
  | _ :: _, [], _, _, _, h => by simp [argsIn] at h
  | m :: ms, v :: vs, ins, ss, mm, h => by
    simp only [argsIn] at h
    cases h1 : argIn σ m v with
    | none => simp [h1] at h
    | some p =>
      obtain ⟨i, s1, m1⟩ := p
      cases h2 : argsIn σ ms vs with
      | none => simp [h1, h2] at h
      | some q =>
        obtain ⟨is, s2, m2⟩ := q
        simp [h1, h2] at h
        obtain ⟨rfl, rfl, rfl⟩ := h
        obtain ⟨h3, h4⟩ := argsIn_len ms vs is s2 m2 h2
        exact ⟨by simp [h3], by simp [h4]⟩

/-- What is known of a call's arguments together. -/
structure ArgsOk (σ : St) (G : Gh) (w : World) (ms : List Bool) (vs : List AV) (us : List Value) (ins : List In) (ss : List Nat) (mm : List Nat) (mb : Option (Nat × MR)) : Prop where
  len : us.length = ins.length
  few : (ins.filter In.isMut).length ≤ 1
  has : mb.isSome = true → ∃ i ∈ ins, i.isMut = true
  each : ∀ (k : Nat) i u, ins[k]? = some i → us[k]? = some u → InOk (AThru G w ss) mb w i u
  wr : (mb = none ∧ mm = [] ∧ (∀ i ∈ ins, i.isMut = false) ∧ ∀ σ1 m, setMuts σ1 ms vs m = σ1) ∨
    ∃ s L ob m i v, mb = .some (L.blk, m) ∧ mm = [s] ∧ i ∈ ins ∧ i.isMut = true ∧ σ.own s = .some ob ∧ G.loc s = .some L ∧ w.heap[L.blk]? = .some (.cells m.arr m.ty (0, 0)) ∧ L.base ≤ m.lo ∧ m.hi ≤ L.base + obLen ob ∧
      (∀ σ1 fr xs, setMuts σ1 ms vs (.some (fr, xs)) = setMut σ1 v fr xs) ∧
      ∀ (G' : Gh) (w' : World) (F : Bool → Nat → Prop) (fr : Bool) (xs' : List (List Data)), Ext G w G' w' → (∀ b, F fr b → G'.FF w' fr b) → MutOk F w' (.some (L.blk, m)) i (.some (fr, xs')) →
        (∀ arr', w'.heap[L.blk]? = .some (.cells arr' m.ty (0, 0)) → ∀ j, (j < m.lo ∨ m.hi ≤ j) → arr'[j]? = m.arr[j]?) →
        ∃ ob', (∀ σ1 : St, σ1.own s = .some ob → setMut σ1 v fr xs' = σ1.setOwn s (.some ob')) ∧ obLen ob' = obLen ob ∧ ob'.mt = ob.mt ∧ OwnOk G' w' L ob'

theorem argsIn_sound (h : Rel X G V A0 M w0 n σ a w) {ms : List Bool} {vs : List AV} {us : List Value} {ins : List In} {ss mm : List Nat} (hl : us.length = vs.length)
    (hv : ∀ (k : Nat) v u, vs[k]? = some v → us[k]? = some u → VR G w v u) (he : argsIn σ ms vs = some (ins, ss, mm)) (hmm : mm.length ≤ 1) :
    ∃ mb, ArgsOk σ G w ms vs us ins ss mm mb := by
  rcases argsIn_split ms vs ins ss mm he hmm with hall | ⟨ms1, ms2, vs1, v, vs2, ins1, i, ins2, ss1, ss2, s, rfl, rfl, rfl, rfl, rfl, h1, h2, h3, h4, h5⟩
  · obtain ⟨rfl, hil, him, hins⟩ := argsIn_imm h.hO ms vs us ins ss mm hall hl hv he
    refine ⟨none, hil.symm, ?_, by simp, fun k i u hi hu => hins none ss (fun _ h => h) k i u hi hu, .inl ⟨rfl, rfl, him, fun σ1 m => setMuts_false ms vs σ1 m hall⟩⟩
    rw [List.filter_eq_nil_iff.2 (fun i hi => by simp [him i hi])]
    simp
  · obtain ⟨hl1, hl1'⟩ := argsIn_len ms1 vs1 ins1 ss1 [] h1
    obtain ⟨hl2, hl2'⟩ := argsIn_len ms2 vs2 ins2 ss2 [] h3
    have hus : us = us.take vs1.length ++ us.drop vs1.length := (List.take_append_drop _ _).symm
    have hlen : us.length = vs1.length + (vs2.length + 1) := by rw [hl]; simp
    obtain ⟨u, us2, hus2⟩ : ∃ u us2, us.drop vs1.length = u :: us2 := by
      cases hd : us.drop vs1.length with
      | nil => have := congrArg List.length hd; simp at this; omega
      | cons u us2 => exact ⟨u, us2, rfl⟩
    generalize hu1 : us.take vs1.length = us1 at hus
    have hul1 : us1.length = vs1.length := by rw [← hu1]; simp; omega
    rw [hus2] at hus
    subst hus
    have hul2 : us2.length = vs2.length := by simp at hlen; omega
    have hvv : VR G w v u := hv vs1.length v u (by simp) (by rw [← hul1]; simp)
    obtain ⟨_, hil1, him1, hins1⟩ := argsIn_imm h.hO ms1 vs1 us1 ins1 ss1 [] h4 hul1 (fun k v u h1 h2 => hv k v u
      (by rw [List.getElem?_append_left (List.getElem?_eq_some_iff.1 h1).1]; exact h1) (by rw [List.getElem?_append_left (List.getElem?_eq_some_iff.1 h2).1]; exact h2)) h1
    obtain ⟨_, hil2, him2, hins2⟩ := argsIn_imm h.hO ms2 vs2 us2 ins2 ss2 [] h5 hul2 (fun k v u h1 h2 => hv (vs1.length + (k + 1)) v u
      (by rw [List.getElem?_append_right (by omega), show vs1.length + (k + 1) - vs1.length = k + 1 from by omega, List.getElem?_cons_succ]; exact h1)
      (by rw [List.getElem?_append_right (by omega), show vs1.length + (k + 1) - us1.length = k + 1 from by omega, List.getElem?_cons_succ]; exact h2)) h3
    obtain ⟨L, ob, m, ho, hL, hh, hlo, hhi, hmt, hin, hback⟩ := argMut_sound h hvv h2
    have e1 : ins1.filter In.isMut = [] := List.filter_eq_nil_iff.2 (fun i hi => by simp [him1 i hi])
    have e2 : ins2.filter In.isMut = [] := List.filter_eq_nil_iff.2 (fun i hi => by simp [him2 i hi])
    refine ⟨some (L.blk, m), by simp [hil1, hil2], by simp [List.filter_append, e1, e2, hmt], fun _ => ⟨i, by simp, hmt⟩, fun k j x hj hx => ?_,
      .inr ⟨s, L, ob, m, i, v, rfl, rfl, by simp, hmt, ho, hL, hh, hlo, hhi, fun σ1 fr xs => setMuts_split ms1 vs1 σ1 fr xs ms2 v vs2 h4 hl1, hback⟩⟩
    rcases Nat.lt_or_ge k ins1.length with hk | hk
    · rw [List.getElem?_append_left hk] at hj
      rw [List.getElem?_append_left (by omega)] at hx
      exact hins1 _ (ss1 ++ ss2) (fun s hs => by simp [hs]) k j x hj hx
    · rw [List.getElem?_append_right hk] at hj
      rw [List.getElem?_append_right (by omega)] at hx
      rw [hil1] at hj
      cases hkk : k - us1.length with
      | zero =>
        rw [hkk] at hj hx
        simp at hj hx
        subst hj; subst hx
        exact hin _ (fun b hb => .inl hb)
      | succ q =>
        rw [hkk] at hj hx
        simp at hj hx
        exact hins2 _ (ss1 ++ ss2) (fun s hs => by simp [hs]) q j x hj hx

theorem ArgsOk.good (h : Rel X G V A0 M w0 n σ a w) {ms : List Bool} {vs : List AV} {us : List Value} {ins : List In} {ss mm : List Nat} {mb : Option (Nat × MR)}
    (ha : ArgsOk σ G w ms vs us ins ss mm mb) (hd : ∀ s ∈ mm, s ∉ ss) : Good (AThru G w ss) mb w := by
  have hlt : ∀ s L, G.loc s = some L → L.blk < w.heap.size := by
    intro s L hL
    obtain ⟨ob, ho⟩ := h.loc s L hL
    obtain ⟨L2, hL2, hok, _⟩ := h.own s ob ho
    rw [hL] at hL2
    obtain rfl := Option.some.inj hL2
    exact hok.lt
  rcases ha.wr with ⟨rfl, _⟩ | ⟨s, L, ob, m, i, v, rfl, rfl, _, _, ho, hL, hh, _⟩
  · refine ⟨fun b hb => ⟨?_, rfl⟩, fun b m hm => by simp [mbM] at hm⟩
    rcases hb with hb | ⟨s, _, L, hL, rfl⟩
    · exact hb.2.1
    · exact hlt s L hL
  · refine ⟨fun b hb => ?_, fun b m' hm => ?_⟩
    · rcases hb with hb | ⟨s', hs', L', hL', rfl⟩
      · exact ⟨hb.2.1, by simp only [mbM]; rw [if_neg (fun e : b = L.blk => hb.2.2 s L hL e.symm)]⟩
      · have hne : s' ≠ s := fun e => hd s (by simp) (e ▸ hs')
        exact ⟨hlt s' L' hL', by simp [mbM, h.inj s' s L' L hL' hL hne]⟩
    · simp only [mbM] at hm
      split at hm
      · rename_i e
        subst e
        obtain rfl := Option.some.inj hm
        exact ⟨hlt s L hL, hh⟩
      · cases hm

theorem Past.call {B : Nat} (h : Past B M w0 w) {mb : Option (Nat × MR)} {w' : World} (hB : B ≤ w.heap.size) (h' : Past w.heap.size (mbM mb) w w')
    (hw : ∀ b m, mbM mb b = some m → w.heap[b]? = some (.cells m.arr m.ty (0, 0)) ∧ (B ≤ b ∨ ∃ m', M b = some m' ∧ m'.lo ≤ m.lo ∧ m.hi ≤ m'.hi)) : Past B M w0 w' := by
  refine ⟨h'.os.trans h.os, h'.tape.trans h.tape, h'.output.trans h.output, Nat.le_trans h.size h'.size, fun b hb hm => ?_, fun b m hm => ⟨(h.may b m hm).1, ?_⟩⟩
  · have hn : mbM mb b = none := by
      cases hmm : mbM mb b with
      | none => rfl
      | some m =>
        rcases (hw b m hmm).2 with h1 | ⟨m', h1, _⟩
        · omega
        · rw [hm] at h1; cases h1
    rw [h'.block b (by omega) hn]
    exact h.block b hb hm
  · obtain ⟨hlt, arr, h1, h2, h3⟩ := h.may b m hm
    cases hmm : mbM mb b with
    | none => exact ⟨arr, by rw [h'.block b (by omega) hmm]; exact h1, h2, h3⟩
    | some m1 =>
      obtain ⟨e1, e2⟩ := hw b m1 hmm
      rw [h1] at e1
      injection e1 with e1
      injection e1 with e3 e4
      obtain ⟨_, arr', g1, g2, g3⟩ := h'.may b m1 hmm
      rcases e2 with h4 | ⟨m', h4, h5, h6⟩
      · omega
      · rw [hm] at h4
        obtain rfl := Option.some.inj h4
        refine ⟨arr', by rw [e4]; exact g1, by rw [g2, ← e3, h2], fun j hj => ?_⟩
        rw [g3 j (by omega), ← e3]
        exact h3 j hj

theorem resOwn_env (s g : Nat) : ∀ (rs : List Res) (σ : St), (resOwn s g rs σ).env = σ.env
  | [], _ => rfl
  | .sc _ _ :: rs, σ => resOwn_env s g rs σ
  | .ag _ _ :: rs, σ => resOwn_env s g rs σ
  | .own _ _ _ _ :: rs, σ => by simp only [resOwn]; rw [resOwn_env s g rs]; rfl

theorem resOwn_none (s g : Nat) : ∀ (rs : List Res) (σ : St), rs.filter Res.isOwn = [] → resOwn s g rs σ = σ
  | [], _, _ => rfl
  | .sc _ _ :: rs, σ, h => resOwn_none s g rs σ (by simpa [List.filter_cons, Res.isOwn] using h)
  | .ag _ _ :: rs, σ, h => resOwn_none s g rs σ (by simpa [List.filter_cons, Res.isOwn] using h)
  | .own _ _ _ _ :: rs, σ, h => by simp [List.filter_cons, Res.isOwn] at h

theorem resOwn_one (s g : Nat) : ∀ (rs : List Res) (σ : St) ty esz fr xs, rs.filter Res.isOwn = [.own ty esz fr xs] → resOwn s g rs σ = σ.setOwn s (some (.row ty esz g true false fr xs))
  | [], _, _, _, _, _, h => by simp at h
  | .sc _ _ :: rs, σ, ty, esz, fr, xs, h => resOwn_one s g rs σ ty esz fr xs (by simpa [List.filter_cons, Res.isOwn] using h)
  | .ag _ _ :: rs, σ, ty, esz, fr, xs, h => resOwn_one s g rs σ ty esz fr xs (by simpa [List.filter_cons, Res.isOwn] using h)
  | .own _ _ _ _ :: rs, σ, ty, esz, fr, xs, h => by
    simp only [List.filter_cons, Res.isOwn, if_true] at h
    injection h with h1 h2
    injection h1 with e1 e2 e3 e4
    subst e1; subst e2; subst e3; subst e4
    simp only [resOwn]
    rw [resOwn_none s g rs _ h2]

theorem resAV_get (s g : Nat) : ∀ (rs : List Res) (k : Nat) r, rs[k]? = some r → (resAV s g rs)[k]? = some (match r with | .sc x fr => .d x fr | .ag cs fr => .agg (lift fr cs) | .own _ _ _ xs => .rs s g 0 xs.length)
  | [], k, r, h => by simp at h
  | r0 :: rs, 0, r, h => by simp at h; subst h; cases r0 <;> simp [resAV]
  | r0 :: rs, k + 1, r, h => by
    simp at h
    have := resAV_get s g rs k r h
    cases r0 <;> simpa [resAV] using this

theorem resAV_len (s g : Nat) : ∀ (rs : List Res), (resAV s g rs).length = rs.length
  | [] => rfl
  | r :: rs => by cases r <;> simp [resAV, resAV_len s g rs]

theorem pack_vr {G : Gh} {w : World} {vs : List AV} {us : List Value} (hl : us.length = vs.length) (h : ∀ (k : Nat) v u, vs[k]? = some v → us[k]? = some u → VR G w v u) : VR G w (packAV vs) (pack us) := by
  have gen : VR G w (.tup vs) (.tuple us.toArray) := .tup _ _ (by simpa using hl) (fun k b hb => by
    have hk : k < us.length := by have := (List.getElem?_eq_some_iff.1 hb).1; omega
    have := h k b us[k] hb (List.getElem?_eq_getElem hk)
    simpa [hk] using this)
  match vs, us, hl, gen with
  | [], [], _, gen => exact gen
  | [v], [u], _, _ => exact h 0 v u rfl rfl
  | v :: v' :: vs, u :: u' :: us, _, gen => exact gen

theorem Res.fr_of {out : Out} (hs : out.shares = false) {r : Res} (hr : r ∈ out.res) : r.shares = false := by
  unfold Out.shares at hs
  simp at hs
  have := hs.1 r hr
  simpa using this

theorem filter_le_one {α : Type} (p : α → Bool) (l : List α) (h : (l.filter p).length ≤ 1) : l.filter p = [] ∨ ∃ x, l.filter p = [x] := by
  match hl : l.filter p with
  | [] => exact .inl rfl
  | [x] => exact .inr ⟨x, rfl⟩
  | x :: y :: r => rw [hl] at h; simp at h

theorem uniq_idx {α : Type} (p : α → Bool) : ∀ (l : List α), (l.filter p).length ≤ 1 → ∀ (i j : Nat) a b, l[i]? = some a → p a = true → l[j]? = some b → p b = true → i = j
  | [], _, i, j, a, b, h, _, _, _ => by simp at h
  | x :: xs, hl, 0, 0, a, b, _, _, _, _ => rfl
  | x :: xs, hl, 0, j + 1, a, b, h1, h2, h3, h4 => by
    simp at h1 h3
    subst h1
    have hm : b ∈ xs.filter p := List.mem_filter.2 ⟨List.mem_of_getElem? h3, h4⟩
    rw [List.filter_cons, if_pos h2] at hl
    simp at hl
    have := hl b (List.mem_of_getElem? h3)
    rw [h4] at this; cases this
  | x :: xs, hl, i + 1, 0, a, b, h1, h2, h3, h4 => by
    simp at h1 h3
    subst h3
    rw [List.filter_cons, if_pos h4] at hl
    simp at hl
    have := hl a (List.mem_of_getElem? h1)
    rw [h2] at this; cases this
  | x :: xs, hl, i + 1, j + 1, a, b, h1, h2, h3, h4 => by
    simp at h1 h3
    have : (xs.filter p).length ≤ 1 := by
      rw [List.filter_cons] at hl
      split at hl
      · rw [List.length_cons] at hl; omega
      · exact hl
    rw [uniq_idx p xs this i j a b h1 h2 h3 h4]

def lnGh (G : Gh) (s : Nat) : Option (OB × Loc) → Gh
  | none => G
  | some (_, L) => G.add s L
def lnNew (s : Nat) (ln : Option (OB × Loc)) (s' : Nat) : Option (OB × Loc) :=
  match ln with
  | some p => if s' = s then some p else none
  | none => none
def mnNew (mn : Option (Nat × OB × Loc)) (s' : Nat) : Option (OB × Loc) :=
  match mn with
  | some (sm, ob, L) => if s' = sm then some (ob, L) else none
  | none => none
def mnSet (σ : St) : Option (Nat × OB × Loc) → St
  | none => σ
  | some (sm, ob, _) => σ.setOwn sm (some ob)
def allNew (s : Nat) (ln : Option (OB × Loc)) (mn : Option (Nat × OB × Loc)) (s' : Nat) : Option (OB × Loc) :=
  match lnNew s ln s' with
  | some p => some p
  | none => mnNew mn s'

theorem lnNew_inv {s s' : Nat} {ln : Option (OB × Loc)} {ob : OB} {L : Loc} (h : lnNew s ln s' = some (ob, L)) : s' = s ∧ ln = some (ob, L) := by
  unfold lnNew at h
  split at h
  · split at h
    · rename_i e; exact ⟨e, h⟩
    · cases h
  · cases h

theorem mnNew_inv {s' : Nat} {mn : Option (Nat × OB × Loc)} {ob : OB} {L : Loc} (h : mnNew mn s' = some (ob, L)) : mn = some (s', ob, L) := by
  unfold mnNew at h
  split at h
  · split at h
    · rename_i e
      simp only [Option.some.injEq, Prod.mk.injEq] at h
      obtain ⟨rfl, rfl⟩ := h
      rw [e]
    · cases h
  · cases h

theorem allNew_inv {s s' : Nat} {ln : Option (OB × Loc)} {mn : Option (Nat × OB × Loc)} {ob : OB} {L : Loc} (h : allNew s ln mn s' = some (ob, L)) : (s' = s ∧ ln = some (ob, L)) ∨ mn = some (s', ob, L) := by
  unfold allNew at h
  split at h
  · rename_i p hp
    rw [h] at hp
    exact .inl (lnNew_inv hp)
  · exact .inr (mnNew_inv h)

/-- **A call by its contract.** -/
theorem evCall_sound {T : Tbl} (hT : TblOk P T) (h : Rel X G V A0 M w0 n σ a w) {s g : Nat} {f : FuncId} {vs : List AV} {us : List Value} {v : AV} {σ' : St} {V' : Nat → Prop} (hl : us.length = vs.length)
    (hv : ∀ (k : Nat) v u, vs[k]? = some v → us[k]? = some u → VR G w v u) (he : evCall T σ s g f vs = some (v, σ')) (hg : ¬ V g) (hV : ∀ g', V g' → V' g') (hVg : V' g) :
    Calls P f us.toArray w fun e w' => ∃ u G', e = .returned u ∧ VR G' w' v u ∧ Rel X G' V' A0 M w0 n σ' a w' := by
  unfold evCall at he
  split at he
  · cases he
  · rename_i sp hsp
    split at he
    · cases he
    · rename_i ins ss mm hargs
      split at he
      · cases he
      · rename_i out hout
        split at he
        · rename_i hc
          obtain ⟨hmm, hown, hdis, hkill⟩ := hc
          simp only [Option.some.injEq, Prod.mk.injEq] at he
          obtain ⟨rfl, rfl⟩ := he
          obtain ⟨mb, ha⟩ := argsIn_sound h hl hv hargs hmm
          have hgood := ha.good h hdis
          obtain ⟨G1, σ1, hσ1, hrel1, hext1, hB1, hAF, hloc1, hown1⟩ : ∃ G1 σ1, σ1 = (if out.shares then σ.kill ss else σ) ∧ Rel X G1 V A0 M w0 n σ1 a w ∧ Ext G w G1 w ∧ G1.B = G.B ∧
              (out.shares = true → ∀ b, AThru G w ss b → G1.F w b) ∧ (∀ s, s ∉ ss → G1.loc s = G.loc s) ∧ (∀ s, s ∉ ss → σ1.own s = σ.own s) := by
            cases hsh : out.shares with
            | false => exact ⟨G, σ, rfl, h, Ext.refl _ _, rfl, (fun e => by simp at e), (fun _ _ => rfl), (fun _ _ => rfl)⟩
            | true =>
              obtain ⟨G', h1, h2, h3, h4, h5, h6⟩ := h.kill ss (killable_sound h.hO (hkill hsh))
              refine ⟨G', _, rfl, h1, h2, h3, (fun _ b hb => hb.elim (fun hb => (h2.F b hb).1) (fun hb => h5 b hb)), h6, (fun s hs => ?_)⟩
              simp only [if_true]
              unfold St.kill
              cases ss with
              | nil => rfl
              | cons x l => simp only; rw [if_neg hs]
          rw [← hσ1]
          clear hσ1
          have hlt1 : ∀ s L, G1.loc s = some L → L.blk < w.heap.size := by
            intro s L hL
            obtain ⟨ob, ho⟩ := hrel1.loc s L hL
            obtain ⟨L2, hL2, hok, _⟩ := hrel1.own s ob ho
            rw [hL] at hL2
            obtain rfl := Option.some.inj hL2
            exact hok.lt
          have hat := hT f sp ins out hsp hout w (AThru G w ss) mb us ha.few hgood ha.has ha.len ha.each
          refine hat.mono fun e w' ⟨us', os, he, hpast, ⟨hru, hro, hnd, hres⟩, hmuts⟩ => ?_
          -- the one block that the call hands over
          obtain ⟨ln, hln1, hln2⟩ : ∃ ln : Option (OB × Loc),
              (∀ ob L, ln = some (ob, L) → ∃ (ty esz : Nat) (fr : Bool) (xs : List (List Data)) (arr : Array Value) (cap : Nat) (ad : Addr) (k : Nat), ob = .row ty esz g true false fr xs ∧ L = ⟨L.blk, 0, esz, g, arr.size⟩ ∧ w.heap.size ≤ L.blk ∧ L.blk ∈ os.filterMap id ∧
                w'.heap[L.blk]? = some (.cells arr ty (0, 0)) ∧ RepRow (FR (AThru G w ss) w.heap.size w' (os.filterMap id) fr) w' esz 0 xs arr ∧ (Res.own ty esz fr xs) ∈ out.res ∧
                us'[k]? = some (Value.slice (some ad) xs.length cap) ∧ (0 < cap → ad = ⟨L.blk, 0, none⟩) ∧ xs.length ≤ cap ∧ cap * esz ≤ arr.size ∧ out.res.filter Res.isOwn = [Res.own ty esz fr xs] ∧ out.res[k]? = some (Res.own ty esz fr xs) ∧ OneBlk w' L.blk) ∧
              (ln = none → out.res.filter Res.isOwn = []) := by
            rcases filter_le_one _ _ hown with hn | ⟨r, hr⟩
            · exact ⟨none, (fun _ _ e => by cases e), fun _ => hn⟩
            · have hmem : r ∈ out.res.filter Res.isOwn := by rw [hr]; simp
              obtain ⟨hm1, hm2⟩ := List.mem_filter.1 hmem
              obtain ⟨k, hk⟩ := List.getElem?_of_mem hm1
              have hkl := (List.getElem?_eq_some_iff.1 hk).1
              have hu : us'[k]? = some us'[k] := List.getElem?_eq_getElem (by omega)
              have ho : os[k]? = some os[k] := List.getElem?_eq_getElem (by omega)
              have hok := hres k r _ _ hk hu ho
              cases r with
              | own ty esz fr xs =>
                generalize hok1 : os[k] = o at hok ho
                generalize hok2 : us'[k] = u at hok hu
                cases o with
                | none => simp [ResOk] at hok
                | some b =>
                  obtain ⟨ad, cap, arr, rfl, h1, h2, h3, h4, h5, h6, h7⟩ := hok
                  refine ⟨some (.row ty esz g true false fr xs, ⟨b, 0, esz, g, arr.size⟩), (fun ob L e => ?_), (fun e => by cases e)⟩
                  simp only [Option.some.injEq, Prod.mk.injEq] at e
                  obtain ⟨rfl, rfl⟩ := e
                  exact ⟨ty, esz, fr, xs, arr, cap, ad, k, rfl, rfl, h4, List.mem_filterMap.2 ⟨some b, List.mem_of_getElem? ho, rfl⟩, h5, h6, hm1, hu, h1, h2, h3, hr, hk, h7⟩
              | sc _ _ => simp [Res.isOwn] at hm2
              | ag _ _ => simp [Res.isOwn] at hm2
          -- the ghost behind the call
          obtain ⟨G', hG'⟩ : ∃ G', G' = lnGh G1 s ln := ⟨_, rfl⟩
          have hB' : G'.B = G1.B := by rw [hG']; unfold lnGh; split <;> rfl
          have hA' : G'.A = G1.A := by rw [hG']; unfold lnGh; split <;> rfl
          have hFw : ∀ b, G1.F w b → w'.heap[b]? = w.heap[b]? := by
            intro b hb
            refine hpast.block b hb.2.1 ?_
            rcases ha.wr with ⟨rfl, _⟩ | ⟨sm, L, ob, m, i, v, rfl, rfl, _, _, ho, hL, _⟩
            · rfl
            · have hL1 : G1.loc sm = some L := by rw [hloc1 sm (hdis sm (by simp))]; exact hL
              simp only [mbM]
              rw [if_neg (fun e : b = L.blk => hb.2.2 sm L hL1 e.symm)]
          have hext' : Ext G1 w G' w' := by
            cases hln : ln with
            | none =>
              rw [hG', hln]
              exact ⟨fun _ _ h => h, rfl, fun _ _ h => .inl h, fun b hb => ⟨⟨hb.1, Nat.lt_of_lt_of_le hb.2.1 hpast.size, hb.2.2⟩, hFw b hb⟩⟩
            | some p =>
              obtain ⟨ob, L⟩ := p
              obtain ⟨ty, esz, fr, xs, arr, cap, ad, k, _, hL, hge, _⟩ := hln1 ob L hln
              rw [hG', hln]
              refine Gh.add_ext (fun hu => hg ?_) (fun b hb => ⟨fun e => ?_, hFw b hb⟩) hpast.size
              · have := hrel1.used _ _ hu
                rw [hL] at this
                exact this
              · have := hb.2.1; omega
          have hloc' : ∀ s', G'.loc s' = match lnNew s ln s' with | some (_, L) => some L | none => G1.loc s' := by
            intro s'
            rw [hG']
            cases ln with
            | none => rfl
            | some p =>
              simp only [lnGh, Gh.add, lnNew]
              by_cases e : s' = s <;> simp [e]
          have hFR : ∀ fr b, (fr = true ∨ out.shares = true) → FR (AThru G w ss) w.heap.size w' (os.filterMap id) fr b → G'.FF w' fr b := by
            intro fr b hsh hb
            obtain ⟨h1, h2, h3⟩ := hb
            have hge : w.heap.size ≤ b → G'.FF w' fr b := by
              intro hge
              refine ⟨⟨.inr (by rw [hB', hB1]; exact Nat.le_trans h.hB hge), h2, fun s' L' hl' => ?_⟩, fun _ => by rw [hB', hB1]; exact Nat.le_trans h.hB hge⟩
              rw [hloc'] at hl'
              cases hln : lnNew s ln s' with
              | none => rw [hln] at hl'; have := hlt1 s' L' hl'; omega
              | some p =>
                obtain ⟨ob, L⟩ := p
                rw [hln] at hl'
                obtain rfl := Option.some.inj hl'
                obtain ⟨_, _, _, _, _, _, _, _, _, _, _, hmem, _⟩ := hln1 ob L (lnNew_inv hln).2
                exact fun e => h3 (e ▸ hmem)
            rcases h1 with ⟨hA, hf⟩ | hge'
            · have hs' : out.shares = true := hsh.resolve_left (by simp [hf])
              exact ⟨(hext'.F b (hAF hs' b hA)).1, fun e => by simp [hf] at e⟩
            · exact hge hge'
          -- the written argument
          obtain ⟨mn, hmn, hmset⟩ : ∃ mn : Option (Nat × OB × Loc), (∀ sm ob L, mn = some (sm, ob, L) → sm ∉ ss ∧ G1.loc sm = some L ∧ (∃ m, mb = some (L.blk, m)) ∧ OwnOk G' w' L ob ∧ ∃ ob0, σ1.own sm = some ob0 ∧ obLen ob = obLen ob0 ∧ ob.mt = ob0.mt) ∧
              (mn = none → mb = none) ∧ setMuts σ1 sp.modes vs out.wr = mnSet σ1 mn := by
            rcases ha.wr with ⟨h1, _, _, h4⟩ | ⟨sm, L, ob, m, i, v, h1, h2, hi, him, ho, hL, hh, hlo, hhi, hset, hback⟩
            · exact ⟨none, (fun _ _ _ e => by cases e), (fun _ => h1), h4 _ _⟩
            · have hns : sm ∉ ss := hdis sm (by rw [h2]; simp)
              have hm := hmuts i hi
              cases hwr : out.wr with
              | none =>
                rw [hwr, h1] at hm
                cases i with
                | row esz xs => simp [MutOk] at hm
                | var cs => simp [MutOk] at hm
                | sc x => simp [In.isMut] at him
                | ag cs => simp [In.isMut] at him
              | some p =>
                obtain ⟨fr, xs'⟩ := p
                have hsh : fr = true ∨ out.shares = true := by
                  cases fr with
                  | true => exact .inl rfl
                  | false => exact .inr (by unfold Out.shares; rw [hwr]; simp)
                rw [hwr, h1] at hm
                obtain ⟨ob', e1, e2, e2', e3⟩ := hback G' w' (fun fr' b => FR (AThru G w ss) w.heap.size w' (os.filterMap id) fr' b ∧ fr' = fr) fr xs' (hext1.trans hext') (fun b hb => hFR fr b hsh hb.1)
                  (by
                    cases i with
                    | row esz xs =>
                      obtain ⟨q1, arr, q2, q3, q4, q5⟩ := hm
                      exact ⟨q1, arr, q2, q3, q4, fun j c hj => ⟨(q5 j c hj).1, fun k d hk => let ⟨u, hu, hr⟩ := (q5 j c hj).2 k d hk; ⟨u, hu, hr.mono fun b hb => ⟨⟨hb, rfl⟩, rfl⟩⟩⟩⟩
                    | var cs =>
                      obtain ⟨cs', q1, q2, arr, q3, q4, q5⟩ := hm
                      exact ⟨cs', q1, q2, arr, q3, q4, fun k d hk => let ⟨u, hu, hr⟩ := q5 k d hk; ⟨u, hu, hr.mono fun b hb => ⟨⟨hb, rfl⟩, rfl⟩⟩⟩
                    | sc x => simp [In.isMut] at him
                    | ag cs => simp [In.isMut] at him)
                  (fun arr' harr' j hj => by
                    have hmm' : mbM mb L.blk = some m := by rw [h1]; simp [mbM]
                    obtain ⟨_, c, c1, c2, c3⟩ := hpast.may L.blk m hmm'
                    rw [harr'] at c1
                    injection c1 with c1
                    injection c1 with c1
                    subst c1
                    exact c3 j hj)
                have hσm : σ1.own sm = some ob := by rw [hown1 sm hns]; exact ho
                exact ⟨some (sm, ob', L), (fun sm' ob2 L2 e => by
                  simp only [Option.some.injEq, Prod.mk.injEq] at e
                  obtain ⟨rfl, rfl, rfl⟩ := e
                  exact ⟨hns, by rw [hloc1 _ hns]; exact hL, ⟨m, h1⟩, e3, ob, hσm, e2, e2'⟩), (fun e => by cases e), by rw [hset, e1 σ1 hσm]; rfl⟩
          obtain ⟨hmnn, hmset⟩ := hmset
          rw [hmset]
          have hloc2 : ∀ s', G'.loc s' = match allNew s ln mn s' with | some (_, L) => some L | none => G1.loc s' := by
            intro s'
            rw [hloc']
            unfold allNew
            cases hln : lnNew s ln s' with
            | some p => rfl
            | none =>
              simp only
              cases hmn' : mnNew mn s' with
              | none => rfl
              | some q =>
                obtain ⟨ob', L'⟩ := q
                exact (hmn s' ob' L' (mnNew_inv hmn')).2.1
          have hlnok : ∀ ob L, ln = some (ob, L) → OwnOk G' w' L ob ∧ G'.loc s = some L ∧ G'.U s L.gen ∧ G.B ≤ L.blk ∧ w.heap.size ≤ L.blk := by
            intro ob L hln
            have hl2 : G'.loc s = some L := by rw [hloc', hln]; simp [lnNew]
            obtain ⟨ty, esz, fr, xs, arr, cap, ad, k, rfl, hL, hge, hmem, hheap, hrow, hin, _, _, _, _, _, _, hone⟩ := hln1 ob L hln
            have hsh : fr = true ∨ out.shares = true := by
              cases hs : out.shares with
              | true => exact .inr rfl
              | false => have := Res.fr_of hs hin; simp [Res.shares] at this; exact .inl this
            have hBL : G.B ≤ L.blk := Nat.le_trans h.hB hge
            have e1 : L.gen = g := by rw [hL]
            have e2 : L.base = 0 := by rw [hL]
            have e3 : L.esz = esz := by rw [hL]
            have e4 : L.size = arr.size := by rw [hL]
            refine ⟨⟨e1, e3, fun _ => by rw [hB', hB1]; exact hBL, fun _ => ⟨e2, rfl, hone⟩, arr, hheap, e4.symm, by rw [e2, e4]; exact hrow.1, fun i c hi => ⟨(hrow.2 i c hi).1, fun k d hk => ?_⟩⟩, hl2, ?_, hBL, hge⟩
            · obtain ⟨u, hu, hr⟩ := (hrow.2 i c hi).2 k d hk
              exact ⟨u, by rw [e2]; exact hu, .d _ _ _ (hr.mono fun b hb => ⟨hFR fr b hsh hb, rfl⟩)⟩
            · rw [hG', hln]; exact .inr ⟨rfl, rfl⟩
          have hlnmt : ∀ ob L, ln = some (ob, L) → ob.mt = false := fun ob L hln => by
            obtain ⟨_, _, _, _, _, _, _, _, rfl, _⟩ := hln1 ob L hln; rfl
          have hrel' : Rel X G' V' A0 M w0 n (resOwn s g out.res (mnSet σ1 mn)) a w' := by
            refine hrel1.many (G' := G') (w' := w') (allNew s ln mn) ?_ hB' hA' (fun s' g' hu => ?_) hext' hpast.size hloc2 (fun s' ob L hn => ?_) (fun s' L hn hL => ?_) (fun s1 s2 L1 L2 h1 h2 h12 => ?_) ?_ (fun s' => ?_)
            · rw [hB1]
              refine h.past.call h.hB hpast (fun b m hm => ⟨(hgood.2 b m hm).2, ?_⟩)
              rcases ha.wr with ⟨rfl, _⟩ | ⟨sm, L, ob, m', i, v, rfl, rfl, _, _, ho, hL, hh, hlo, hhi, _⟩
              · simp [mbM] at hm
              · simp only [mbM] at hm
                split at hm
                · rename_i e
                  subst e
                  obtain rfl := Option.some.inj hm
                  rcases h.old _ _ _ hL ho with ⟨h1, _⟩ | ⟨m2, h1, h2, h3⟩
                  · exact .inl h1
                  · exact .inr ⟨m2, h1, by omega, by omega⟩
                · cases hm
            · cases hln : ln with
              | none => rw [hG', hln] at hu; exact hV _ (hrel1.used _ _ hu)
              | some p =>
                rw [hG', hln] at hu
                rcases hu with hu | ⟨_, hu⟩
                · exact hV _ (hrel1.used _ _ hu)
                · obtain ⟨ob, L⟩ := p
                  obtain ⟨_, _, _, _, _, _, _, _, _, hL, _⟩ := hln1 ob L hln
                  rw [hL] at hu
                  rw [hu]; exact hVg
            · rcases allNew_inv hn with ⟨rfl, hln⟩ | hmn'
              · obtain ⟨h1, _, h3, h4, _⟩ := hlnok ob L hln
                exact ⟨h1, h3, .inl ⟨by rw [hB1]; exact h4, hlnmt ob L hln⟩⟩
              · obtain ⟨hns, hL, _, hok, ob0, ho0, hlen, hmt0⟩ := hmn s' ob L hmn'
                obtain ⟨L2, hL2, _, hu⟩ := hrel1.own s' ob0 ho0
                rw [hL] at hL2
                obtain rfl := Option.some.inj hL2
                refine ⟨hok, hext'.U _ _ hu, ?_⟩
                rcases hrel1.old _ _ _ hL ho0 with ⟨h1, h2⟩ | ⟨m, h1, h2, h3⟩
                · exact .inl ⟨h1, hmt0.trans h2⟩
                · exact .inr ⟨m, h1, h2, by rw [hlen]; exact h3⟩
            · refine hpast.block L.blk (hlt1 s' L hL) ?_
              cases hmn' : mn with
              | none => rw [hmnn hmn']; rfl
              | some q =>
                obtain ⟨sm, ob', L'⟩ := q
                obtain ⟨_, hL', ⟨m, hmb⟩, _⟩ := hmn sm ob' L' hmn'
                have hne : s' ≠ sm := by
                  intro e
                  unfold allNew at hn
                  split at hn
                  · cases hn
                  · rw [hmn', e] at hn; simp [mnNew] at hn
                rw [hmb]
                simp only [mbM]
                rw [if_neg (hrel1.inj s' sm L L' hL hL' hne)]
            · rw [hloc'] at h1 h2
              cases hln1' : lnNew s ln s1 with
              | some p =>
                obtain ⟨ob, L⟩ := p
                obtain ⟨e1, hln⟩ := lnNew_inv hln1'
                obtain ⟨_, _, _, _, hge⟩ := hlnok ob L hln
                rw [hln1'] at h1
                obtain rfl := Option.some.inj h1
                have e2 : lnNew s ln s2 = none := by rw [hln]; simp only [lnNew]; rw [if_neg (fun e => h12 (e1.trans e.symm))]
                rw [e2] at h2
                have := hlt1 s2 L2 h2; omega
              | none =>
                rw [hln1'] at h1
                cases hln2' : lnNew s ln s2 with
                | some p =>
                  obtain ⟨ob, L⟩ := p
                  obtain ⟨e2, hln⟩ := lnNew_inv hln2'
                  obtain ⟨_, _, _, _, hge⟩ := hlnok ob L hln
                  rw [hln2'] at h2
                  obtain rfl := Option.some.inj h2
                  have := hlt1 s1 L1 h1; omega
                | none =>
                  rw [hln2'] at h2
                  exact hrel1.inj s1 s2 L1 L2 h1 h2 h12
            · rw [resOwn_env]
              cases mn <;> rfl
            · have hms : ∀ s', (mnSet σ1 mn).own s' = match mnNew mn s' with | some (ob, _) => some ob | none => σ1.own s' := by
                intro s'
                cases mn with
                | none => rfl
                | some q =>
                  obtain ⟨sm, ob', L'⟩ := q
                  simp only [mnSet, mnNew, St.setOwn]
                  by_cases e : s' = sm <;> simp [e]
              cases hln : ln with
              | none =>
                rw [resOwn_none _ _ _ _ (hln2 hln), hms]
                rfl
              | some p =>
                obtain ⟨ob, L⟩ := p
                obtain ⟨ty, esz, fr, xs, arr, cap, ad, k, hob, _, _, _, _, _, _, _, _, _, _, hf, _⟩ := hln1 ob L hln
                rw [resOwn_one _ _ _ _ _ _ _ _ hf]
                simp only [St.setOwn, allNew, lnNew]
                by_cases e : s' = s
                · simp [e, hob]
                · simp only [e, if_false]
                  exact hms s'
          refine ⟨pack us', G', he, pack_vr (by rw [resAV_len, hru]) (fun k v' u hk hu => ?_), hrel'⟩
          have hkl : k < out.res.length := by have := (List.getElem?_eq_some_iff.1 hk).1; rw [resAV_len] at this; exact this
          have hrk := List.getElem?_eq_getElem hkl
          rw [resAV_get s g _ k _ hrk] at hk
          obtain rfl := Option.some.inj hk
          have hok := hres k _ u _ hrk hu (List.getElem?_eq_getElem (by omega))
          generalize hr : out.res[k] = r at hok hrk ⊢
          generalize hoo : os[k]'(by omega) = oo at hok
          have hmem : r ∈ out.res := List.mem_of_getElem? hrk
          cases r with
          | sc x fr =>
            cases oo with
            | some b => simp [ResOk] at hok
            | none =>
              simp only [ResOk] at hok
              by_cases hsh : fr = true ∨ out.shares = true
              · exact .d _ _ _ (hok.mono fun b hb => ⟨hFR fr b hsh hb, rfl⟩)
              · have hs : out.shares = false := by cases hs : out.shares with | false => rfl | true => exact absurd (.inr hs) hsh
                have h1 := Res.fr_of hs hmem
                cases hok with
                | val _ hv => exact .d _ _ _ (.val _ hv)
                | _ => simp [Res.shares] at h1; exact absurd (.inl h1) hsh
          | ag cs fr =>
            cases oo with
            | some b => simp [ResOk] at hok
            | none =>
              obtain ⟨vs', rfl, hsz, hcs⟩ := hok
              have hsh : fr = true ∨ out.shares = true := by
                cases hs : out.shares with
                | true => exact .inr rfl
                | false => have := Res.fr_of hs hmem; simp [Res.shares] at this; exact .inl this
              refine VR.mk_agg (by rw [hsz]; simp [lift]) (fun k b hb => ?_)
              obtain ⟨x, hx, rfl⟩ := lift_get hb
              obtain ⟨u, hu, hr'⟩ := hcs k x hx
              exact ⟨u, hu, hr'.oneCell, .d _ _ _ (hr'.mono fun b hb => ⟨hFR fr b hsh hb, rfl⟩)⟩
          | own ty esz fr xs =>
            cases hln : ln with
            | none =>
              have := hln2 hln
              have hm : (Res.own ty esz fr xs) ∈ out.res.filter Res.isOwn := List.mem_filter.2 ⟨hmem, rfl⟩
              rw [this] at hm
              cases hm
            | some p =>
              obtain ⟨ob, L⟩ := p
              obtain ⟨h1, h2, h3, _, _⟩ := hlnok ob L hln
              obtain ⟨ty2, esz2, fr2, xs2, arr, cap, ad, k2, hob, hL, _, hmemb, _, _, _, hu2, had, hcap, hcs, hf, hk2, _⟩ := hln1 ob L hln
              have hm : (Res.own ty esz fr xs) ∈ out.res.filter Res.isOwn := List.mem_filter.2 ⟨hmem, rfl⟩
              rw [hf] at hm
              simp at hm
              obtain ⟨rfl, rfl, rfl, rfl⟩ := hm
              have hkk : k = k2 := uniq_idx Res.isOwn out.res hown k k2 _ _ hrk rfl hk2 rfl
              subst hkk
              rw [hu] at hu2
              obtain rfl := Option.some.inj hu2
              refine .rs _ _ _ _ _ rfl (by have e1 : L.gen = g := by rw [hL]
                                           rw [← e1]; exact h3) (fun L2 hL2 _ => ?_)
              rw [h2] at hL2
              obtain rfl := Option.some.inj hL2
              have e2 : L.base = 0 := by rw [hL]
              have e3 : L.esz = esz := by rw [hL]
              have e4 : L.size = arr.size := by rw [hL]
              exact ⟨ad, cap, rfl, hcap, fun hp => by rw [had hp, e2]; simp, by rw [e2, e3, e4]; simpa using hcs⟩
        · cases he

end
end Go.Dv

/-
  DERIVED, MY OWN. append, WHERE THE CAPACITY IS KNOWN.
-/

set_option autoImplicit false
namespace Go.Dv
open Go Go.RowKit

section
variable {P : Program} {G : Gh} {V : Nat → Prop} {A0 : Nat → Prop} {M : Nat → Option MR} {w0 w : World} {X : Aux} {n : Nat} {σ : St} {a : Act}

theorem run_appendN_grow {t t2 ty e : TypeId} {ki kn : IntKind} {inf : TypeInfo} {z : Value} {m sLen sCap : Nat} {base : Option Addr} {olds : Array Value}
    (ht : P.underlying t = some (.slice e)) (h2 : P.underlying t2 = some (.int ki)) (hi : P.info? e = some inf) (hz : inf.zero = some z) (hzs : z.cells.size = szOf P e)
    (ho : ∀ w', w'.heap = w.heap → (Builtin.firstCells (szOf P e) sLen (.slice base sLen sCap)).run P w' = .ok olds w') (hroom : sCap < sLen + m)
    (h63 : sLen + m ≤ 140737488355328) (hb : (sLen + m) * bytesOf P e ≤ 140737488355328) :
    ∃ cap, sLen + m ≤ cap ∧ (Builtin.append_ #[t, t2] ty #[.slice base sLen sCap, .int kn m]).run P w =
      .ok (.slice (some ⟨w.heap.size, 0, none⟩) (sLen + m) cap) (w.drew.alloc (.cells (olds ++ Builtin.zeroCells z.cells m ++ Builtin.zeroCells z.cells (cap - (sLen + m))) e)) := by
  have hby : inf.bytes = bytesOf P e := by simp [bytesOf, Program.bytesOf, hi]
  have hfit := growslice_fits (need := sLen + m) (old := sCap) (bytes := inf.bytes) hroom (by rw [hby]; exact hb)
  refine ⟨grownCap w (sLen + m) sCap e, grownCap_ge _ _ _ _, ?_⟩
  have hm : IntKind.i64.max = 9223372036854775807 := rfl
  have h1 : ¬ ((sLen + m : Nat) : Int) > 9223372036854775807 := by omega
  have hd1 : (Builtin.firstCells (szOf P e) sLen (.slice base sLen sCap)).run P w.drew = .ok olds w.drew := ho _ rfl
  have hn : ¬ (sLen + m ≤ sCap) := by omega
  have h48 : ¬ (Builtin.nextslicecap (sLen + m) sCap * inf.bytes > 2 ^ 48) := by simp; omega
  have hw : IntKind.i64.wrap (m : Int) = m := by
    rw [IntWalk.i64_left]; exact IntWalk.wrap64_in _ ⟨by omega, by omega⟩
  have hneg : ¬ (m : Int) < 0 := by omega
  have hmb : m * bytesOf P e ≤ (sLen + m) * bytesOf P e := Nat.mul_le_mul_right _ (by omega)
  have hbig : ¬ (m : Int) * (inf.bytes : Int) > 2 ^ 48 := by
    rw [hby]
    have : ((m * bytesOf P e : Nat) : Int) ≤ 140737488355328 := by omega
    push_cast at this
    omega
  simp only [Builtin.append_, run_underlying ht, run_underlying h2, run_sizeOf' hi, Sem.run_bind, Result.andThen_ok, Sem.run_pure, asInt, List.getElem?_toArray, List.getElem?_cons_zero, List.getElem?_cons_succ, hw, if_true]
  have ha : (asIntOf (Value.int kn ↑m)).run P w = .ok (kn, (m : Int)) w := rfl
  rw [ha]
  simp only [Result.andThen_ok, hw, Int.toNat_natCast]
  rw [if_neg hneg]
  simp only [typeInfo, run_program, hi, Sem.run_bind, Result.andThen_ok, Sem.run_pure]
  rw [if_neg hbig]
  simp only [Sem.run_bind, Sem.run_pure, Result.andThen_ok, Int.toNat_natCast]
  rw [if_neg hn]
  simp only [typeInfo, run_program, hi, Sem.run_bind, Result.andThen_ok, Sem.run_pure, hm, h1, false_and, if_false]
  rw [if_neg h48]
  simp only [Sem.run_bind, run_choose, Question.forced, Bool.false_eq_true, if_false, Result.andThen_ok, run_askRoom, hd1, Bool.not_true]
  simp [hd1, zeroValue, typeInfo, hi, hz, newRow, grownCap]
  intro h0
  have : Builtin.zeroCells z.cells m = #[] := by
    apply Array.eq_empty_of_size_eq_zero
    rw [zeroCells_size, hzs]
    simpa using h0
  rw [this]
  simp
/-! ### what it does -/
def appendRc (P : Program) (σ : St) (s g : Nat) (t : TypeId) (x : AV) (ys : List (List Data)) (fr' : Bool) : Option (AV × St) :=
  match P.underlying t, x with
  | some (.slice e), .rc s0 g0 off len cap =>
    if (zeroRow P e 0).isSome then
      match σ.own s0 with
      | some (.row ty esz g' app mt fr xs) =>
        if g' = g0 ∧ esz = szOf P e ∧ off + cap ≤ xs.length then
          if len + ys.length ≤ cap then
            some (.rc s0 g0 off (len + ys.length) cap, σ.setOwn s0 (some (.row ty esz g' app mt (fr && fr') (xs.take (off + len) ++ ys ++ xs.drop (off + len + ys.length)))))
          else if len + ys.length ≤ 140737488355328 ∧ (len + ys.length) * bytesOf P e ≤ 140737488355328 then
            some (.rs s g 0 (len + ys.length), σ.setOwn s (some (.row e (szOf P e) g true false (fr && fr') ((xs.drop off).take len ++ ys))))
          else none
        else none
      | _ => none
    else none
  | _, _ => none

/-- append of slices and strings. -/
def appendX (P : Program) (σ : St) (s g : Nat) (t : TypeId) (x y : AV) : Option (AV × St) :=
  match x with
  | .rc _ _ _ _ _ =>
    match P.underlying t with
    | some (.slice e) => match newsOf P σ e y with | some (ys, fr') => appendRc P σ s g t x ys fr' | none => none
    | _ => none
  | x => appendAV P σ s g t x y

/-- append of so many elements of zero, where it grows. -/
def appendN (P : Program) (σ : St) (s g : Nat) (t t2 : TypeId) (x y : AV) : Option (AV × St) :=
  match P.underlying t, P.underlying t2, x, intOfAV y with
  | some (.slice e), some (.int _), .rc s0 g0 off len cap, some m =>
    if 0 ≤ m ∧ cap < len + m.toNat then
      match zeroRow P e m.toNat with
      | some ys => appendRc P σ s g t (.rc s0 g0 off len cap) ys true
      | none => none
    else none
  | _, _, _, _ => none

theorem appendRc_ctr {σ' : St} {s g : Nat} {t : TypeId} {x v : AV} {ys : List (List Data)} {fr' : Bool} (h : appendRc P σ s g t x ys fr' = some (v, σ')) : σ'.ctr = σ.ctr := by
  unfold appendRc at h
  repeat' split at h
  all_goals first | (cases h; done) | (obtain ⟨_, rfl⟩ := Prod.mk.inj (Option.some.inj h); rfl)

/-! ### its soundness -/
theorem window_get {xs : List (List Data)} {off len i : Nat} {c : List Data} (h : ((xs.drop off).take len)[i]? = some c) : i < len ∧ xs[off + i]? = some c := by
  rw [List.getElem?_take] at h
  split at h
  · rw [List.getElem?_drop] at h; exact ⟨by assumption, h⟩
  · cases h

/-- The cells that are appended: what a run of the machine reads, and what they are. -/
theorem appendRc_sound (h : Rel X G V A0 M w0 n σ a w) {s g : Nat} {t : TypeId} {x v : AV} {ux : Value} {ys : List (List Data)} {fr' : Bool} {σ' : St} {V' : Nat → Prop} {run : Value → Sem Value} (hx : VR G w x ux)
    (hap : appendRc P σ s g t x ys fr' = some (v, σ')) (hg : ∀ s', ¬ G.U s' g) (hV : ∀ g', V g' → V' g') (hVg : V' g) {cells : Array Value}
    (hcr : RowR G w (szOf P (match P.underlying t with | some (.slice e) => e | _ => 0)) fr' 0 ys cells) (hcs : cells.size = ys.length * szOf P (match P.underlying t with | some (.slice e) => e | _ => 0)) (hc1 : ∀ v ∈ cells.toList, v.oneCell' = true)
    (hroomR : ∀ e inf base sLen sCap w', (∃ s0 g0 off, x = .rc s0 g0 off sLen sCap) → P.underlying t = some (.slice e) → P.info? e = some inf → sLen + ys.length ≤ sCap → (match base with | some ad => storeCells (ad.add (sLen * szOf P e)) cells.toList | none => (pure () : Sem Unit)).run P w = .ok () w' →
      (run (.slice base sLen sCap)).run P w = .ok (.slice base (sLen + ys.length) sCap) w')
    (hgrowR : ∀ e inf z base sLen sCap (olds : Array Value), P.underlying t = some (.slice e) → P.info? e = some inf → inf.zero = some z → z.cells.size = szOf P e →
      (∀ w', w'.heap = w.heap → (Builtin.firstCells (szOf P e) sLen (.slice base sLen sCap)).run P w' = .ok olds w') → sCap < sLen + ys.length → sLen + ys.length ≤ 140737488355328 → (sLen + ys.length) * bytesOf P e ≤ 140737488355328 →
      ∃ cap, sLen + ys.length ≤ cap ∧ (run (.slice base sLen sCap)).run P w = .ok (.slice (some ⟨w.heap.size, 0, none⟩) (sLen + ys.length) cap) (w.drew.alloc (.cells (olds ++ cells ++ Builtin.zeroCells z.cells (cap - (sLen + ys.length))) e))) :
    ∃ u w' G', (run ux).run P w = .ok u w' ∧ VR G' w' v u ∧ Rel X G' V' A0 M w0 n σ' a w' ∧ Ext G w G' w' := by
  unfold appendRc at hap
  split at hap
  · rename_i e s0 g0 off len cap ht
    rw [ht] at hcr hcs
    simp only at hcr hcs
    split at hap
    · rename_i hez
      obtain ⟨zr, hzr⟩ := Option.isSome_iff_exists.1 hez
      obtain ⟨hsz, _, zv, inf, hi, hzz, _, hzs, _, hz1⟩ := zeroRow_sound hzr w G
      split at hap
      · rename_i ty0 esz g' app mt fr xs ho
        split at hap
        · rename_i hcond
          obtain ⟨rfl, rfl, hfull⟩ := hcond
          obtain ⟨L, hL, hok, hLU⟩ := h.own s0 _ ho
          obtain ⟨hgn, ad, rfl, hcap, had, hsize⟩ := hx.rc_live hL hok.gen_eq
          have hok0 := hok
          obtain ⟨h1, h2', h3, h3', arr, h4, h5, h6, h7⟩ := hok
          have hrow : RowR G w (szOf P e) fr L.base xs arr := ⟨by rw [h5]; exact h6, h7⟩
          split at hap
          · rename_i hroom
            obtain ⟨rfl, rfl⟩ := Prod.mk.inj (Option.some.inj hap)
            obtain ⟨hfit, hrow'⟩ := hrow.splice (off := off + len) hcr hcs (by omega)
            have hcl : cells.toList.length = ys.length * szOf P e := by simp [hcs]
            have hlen2 : (xs.take (off + len) ++ ys ++ xs.drop (off + len + ys.length)).length = xs.length := by simp; omega
            by_cases hcz : cap = 0
            · have hy0 : ys = [] := List.eq_nil_of_length_eq_zero (by omega)
              have hl0 : len = 0 := by omega
              subst hy0; subst hl0
              have hce : cells = #[] := Array.eq_empty_of_size_eq_zero (by simpa using hcs)
              subst hce
              have hrun := hroomR e inf (some ad) 0 cap w ⟨_, _, _, rfl⟩ ht hi hroom rfl
              obtain ⟨G', hl', hu', hrel, hext⟩ := h.write (V' := V) (g := L.gen) (ob' := .row ty0 (szOf P e) g' app mt (fr && fr') (xs.take (off + 0) ++ [] ++ xs.drop (off + 0 + ([] : List (List Data)).length))) (arr := arr) ho hL h4 rfl rfl (.inl (by simp [obLen]))
                (fun j _ => .inr rfl) (.inl rfl) (fun _ h => h) (h.used _ _ hLU)
                (fun G' hxt hB => ⟨h1, h2', fun hm => hB ▸ h3 hm, fun ha => ⟨(h3' ha).1, (h3' ha).2.1, by rw [setRow_self w L.blk arr ty0 (0, 0) h4]; exact (h3' ha).2.2⟩, arr, by rw [setRow_self w L.blk arr ty0 (0, 0) h4]; exact h4, h5, by rw [hlen2]; exact h6, by
                  have hr := (hrow'.ext hxt).2
                  simp only [List.append_nil, List.length_nil, Nat.add_zero, List.take_append_drop] at hr ⊢
                  simpa using hr⟩)
              rw [setRow_self w L.blk arr ty0 (0, 0) h4] at hrel hext
              refine ⟨_, w, G', hrun, ?_, hrel.mono hV, hext⟩
              have hvr := hx.ext hext
              simpa using hvr
            · have hadv := had (by omega)
              subst hadv
              have hst := run_storeCells_at P L.blk (L.base + (off + len) * szOf P e) ty0 cells.toList 0 arr w h4 (by simpa using hfit) hc1
              simp only [Nat.add_zero] at hst
              have hrun := hroomR e inf (some ⟨L.blk, L.base + off * L.esz, none⟩) len cap _ ⟨_, _, _, rfl⟩ ht hi hroom (by
                show (storeCells ((⟨L.blk, L.base + off * L.esz, none⟩ : Addr).add (len * szOf P e)) cells.toList).run P w = _
                rw [addr_add, h2', show L.base + off * szOf P e + len * szOf P e = L.base + (off + len) * szOf P e from by rw [Nat.add_mul]; omega]; exact hst)
              obtain ⟨G', hl', hu', hrel, hext⟩ := h.write (V' := V) (g := L.gen) (ob' := .row ty0 (szOf P e) g' app mt (fr && fr') (xs.take (off + len) ++ ys ++ xs.drop (off + len + ys.length))) ho hL h4 (splice_size arr cells.toList _ hfit) rfl
                (.inl (by simp only [obLen, hlen2]; exact Nat.le_refl _))
                (fun j hj => .inr (by
                  rw [splice_get _ _ _ _ hfit, if_neg]
                  have : (off + len + ys.length) * szOf P e ≤ xs.length * szOf P e := Nat.mul_le_mul_right _ (by omega)
                  rw [Nat.add_mul] at this
                  simp only [obLen] at hj
                  rw [hcl]
                  omega)) (.inl rfl) (fun _ h => h) (h.used _ _ hLU)
                (fun G' hxt hB => ⟨h1, h2', fun hm => hB ▸ h3 hm, fun ha => ⟨(h3' ha).1, (h3' ha).2.1, one_splice (h3' ha).2.2 h4 hfit hc1⟩, _, setRow_heap w L.blk arr _ ty0 _ h4, by rw [splice_size _ _ _ hfit]; exact h5, by rw [hlen2]; exact h6, (hrow'.ext hxt).2⟩)
              refine ⟨_, _, G', hrun, ?_, hrel.mono hV, hext⟩
              refine .rc _ _ _ _ _ _ rfl (hext.U _ _ hgn) (fun L2 hL2 hg2 => ?_)
              rw [hl'] at hL2
              obtain rfl := Option.some.inj hL2
              exact ⟨_, rfl, hroom, fun _ => rfl, hsize⟩
          · rename_i hroom
            split at hap
            · rename_i hb
              obtain ⟨rfl, rfl⟩ := Prod.mk.inj (Option.some.inj hap)
              have hwl : ((xs.drop off).take len).length = len := by simp; omega
              have holds := cells_run (P := P) (ad := ⟨L.blk, L.base + off * szOf P e, none⟩) (e := szOf P e) (fr := fr) (ys := (xs.drop off).take len) (fun i c hi => (h7 _ c (window_get hi).2).1) (fun i c hi k d hk => by
                obtain ⟨hil, hxi⟩ := window_get hi
                obtain ⟨u, hu, hv⟩ := (hrow.2 _ c hxi).2 k d hk
                refine ⟨u, ?_, hv⟩
                rw [addr_add, cell_of_arr h4, ← hu, Nat.add_mul]
                congr 1
                omega) len (by rw [hwl]; exact Nat.le_refl _)
              obtain ⟨olds, ho1, ho2, ho3, ho4⟩ := holds
              rw [List.take_of_length_le (Nat.le_of_eq hwl)] at ho2
              obtain ⟨cap', hcap', hrun⟩ := hgrowR e inf zv (some ad) len cap olds ht hi hzz hzs (fun w' hw' => by
                simp only [Builtin.firstCells]
                by_cases hcz : cap = 0
                · have hl0 : len = 0 := by omega
                  have := ho1 w' hw'
                  rw [hl0] at this ⊢
                  simp [loadCells, loadCellsFrom] at this ⊢
                  exact this
                · rw [had (by omega), h2']
                  exact ho1 w' hw') (by omega) hb.1 hb.2
              have hrow' : RowR G w.drew (szOf P e) (fr && fr') 0 ((xs.drop off).take len ++ ys) (olds ++ cells ++ Builtin.zeroCells zv.cells (cap' - (len + ys.length))) :=
                (RowR.append (rest := Builtin.zeroCells zv.cells (cap' - (len + ys.length))) ho2 hcr (by rw [hwl]; simpa using ho3)).ext ⟨fun _ _ h => h, rfl, fun _ _ h => .inl h, fun b hb => ⟨hb, rfl⟩⟩
              obtain ⟨G', hGU, hv', hrel, hext, _⟩ := h.drew.new (V' := V') (newRow_ok (s := s) (g := g) (e := e) (cap := cap') (len := len + ys.length) hrow' hcap' (by
                simp only [Array.size_append, ho3, hcs, zeroCells_size, hzs, ← Nat.add_mul]
                exact Nat.mul_le_mul_right _ (by omega)) (one_app (one_app (one_list ho4) (one_list hc1)) (hz1 _))) rfl (hg _) hV hVg
              exact ⟨_, _, G', hrun, hv', hrel, Ext.trans (G1 := G) (w1 := w.drew) ⟨fun _ _ h => h, rfl, fun _ _ h => .inl h, fun b hb => ⟨hb, rfl⟩⟩ hext⟩
            · cases hap
        · cases hap
      · cases hap
    · cases hap
  · cases hap

theorem appendX_ctr {σ' : St} {s g : Nat} {t : TypeId} {x y v : AV} (hA : appendAV P σ s g t x y = some (v, σ') → σ'.ctr = σ.ctr) (h : appendX P σ s g t x y = some (v, σ')) : σ'.ctr = σ.ctr := by
  unfold appendX at h
  split at h
  · split at h
    · split at h
      · exact appendRc_ctr h
      · cases h
    · cases h
  · exact hA h
theorem appendN_ctr {σ' : St} {s g : Nat} {t t2 : TypeId} {x y v : AV} (h : appendN P σ s g t t2 x y = some (v, σ')) : σ'.ctr = σ.ctr := by
  unfold appendN at h
  repeat' split at h
  all_goals first | (cases h; done) | exact appendRc_ctr h

theorem appendX_sound (h : Rel X G V A0 M w0 n σ a w) {s g : Nat} {t t2 ty : TypeId} {x y v : AV} {ux uy : Value} {σ' : St} {V' : Nat → Prop} (hx : VR G w x ux) (hy : VR G w y uy)
    (h2 : notInt P t2 = true) (hap : appendX P σ s g t x y = some (v, σ')) (hg : ∀ s', ¬ G.U s' g) (hV : ∀ g', V g' → V' g') (hVg : V' g) :
    ∃ u w' G', (Builtin.append_ #[t, t2] ty #[ux, uy]).run P w = .ok u w' ∧ VR G' w' v u ∧ Rel X G' V' A0 M w0 n σ' a w' ∧ Ext G w G' w' := by
  unfold appendX at hap
  split at hap
  · split at hap
    · rename_i e ht
      split at hap
      · rename_i ys fr' hn
        obtain ⟨⟨hlen, hcells⟩, hyl⟩ := newsOf_sound h.hO hy hn
        obtain ⟨cells, hc, hcr, hcs, hc1⟩ := hcells ys.length (Nat.le_refl _)
        rw [List.take_length] at hcr
        refine appendRc_sound (run := fun ux => Builtin.append_ #[t, t2] ty #[ux, uy]) h hx hap hg hV hVg (cells := cells) (by rw [ht]; exact hcr) (by rw [ht]; exact hcs) hc1 ?_ ?_
        · intro e' inf base sLen sCap w' _ ht' hi hroom hst
          rw [ht] at ht'
          obtain rfl : e = e' := by injection ht' with h1; injection h1
          exact run_append_room' ht h2 hi (hlen w) (hc w rfl) hroom hst
        · intro e' inf z base sLen sCap olds ht' hi hz hzs ho hroom h63 hb
          rw [ht] at ht'
          obtain rfl : e = e' := by injection ht' with h1; injection h1
          exact run_append_grow' ht h2 hi hz (hlen w) hc ho hroom h63 hb
      · cases hap
    · cases hap
  · exact appendAV_sound h hx hy h2 hap hg hV hVg

theorem appendN_sound (h : Rel X G V A0 M w0 n σ a w) {s g : Nat} {t t2 ty : TypeId} {x y v : AV} {ux uy : Value} {σ' : St} {V' : Nat → Prop} (hx : VR G w x ux) (hy : VR G w y uy)
    (hap : appendN P σ s g t t2 x y = some (v, σ')) (hg : ∀ s', ¬ G.U s' g) (hV : ∀ g', V g' → V' g') (hVg : V' g) :
    ∃ u w' G', (Builtin.append_ #[t, t2] ty #[ux, uy]).run P w = .ok u w' ∧ VR G' w' v u ∧ Rel X G' V' A0 M w0 n σ' a w' ∧ Ext G w G' w' := by
  unfold appendN at hap
  split at hap
  · rename_i e ki s0 g0 off len cap m ht ht2 hm
    split at hap
    · rename_i hmc
      split at hap
      · rename_i ys hys
        obtain ⟨k, rfl⟩ := intOfAV_sound hy hm
        obtain ⟨hsz, hyl, zv, inf0, hi0, hzz0, _, hzs0, hrow, _⟩ := zeroRow_sound hys w G
        obtain ⟨m', rfl⟩ : ∃ m' : Nat, m = (m' : Int) := ⟨m.toNat, by omega⟩
        simp only [Int.toNat_natCast] at hyl hmc
        have hcs : (Builtin.zeroCells zv.cells ys.length).size = ys.length * szOf P e := by rw [zeroCells_size, hzs0]
        have hone : ∀ v ∈ (Builtin.zeroCells zv.cells ys.length).toList, v.oneCell' = true := by
          intro v hv
          obtain ⟨j, hj⟩ := List.getElem?_of_mem hv
          have hr := hrow (ys.length * szOf P e) (by rw [hyl]; exact Nat.le_refl _)
          have hjl : j < ys.length * szOf P e := by
            have := (List.getElem?_eq_some_iff.1 hj).1
            simpa [hcs] using this
          have hi : j / szOf P e < ys.length := Nat.div_lt_of_lt_mul (by rw [Nat.mul_comm]; exact hjl)
          obtain ⟨hcl, hcd⟩ := hr.2 _ _ (List.getElem?_eq_getElem hi)
          have hk : j % szOf P e < (ys[j / szOf P e]).length := by rw [hcl]; exact Nat.mod_lt _ hsz
          obtain ⟨u, hu, hvr⟩ := hcd _ _ (List.getElem?_eq_getElem hk)
          have e2 : 0 + (j / szOf P e * szOf P e + j % szOf P e) = j := by rw [Nat.zero_add, Nat.mul_comm]; exact Nat.div_add_mod j _
          rw [e2] at hu
          have e3 : Builtin.zeroCells zv.cells ys.length = (Array.range (ys.length * szOf P e)).map (zv.cells[· % zv.cells.size]!) := by simp only [Builtin.zeroCells, hzs0]
          rw [e3] at hj
          simp only [Array.getElem?_toList] at hj
          rw [hj] at hu
          obtain rfl := Option.some.inj hu
          exact hvr.oneCell rfl
        refine appendRc_sound (run := fun ux => Builtin.append_ #[t, t2] ty #[ux, .int k m']) h hx hap hg hV hVg (cells := Builtin.zeroCells zv.cells ys.length) (by
          rw [ht]
          have := hrow (ys.length * szOf P e) (by rw [hyl]; exact Nat.le_refl _)
          simpa [Builtin.zeroCells, hzs0] using this) (by rw [ht]; exact hcs) hone ?_ ?_
        · rintro e' inf base sLen sCap w' ⟨_, _, _, hxe⟩ _ _ hroom _
          injection hxe with _ _ _ e4 e5
          omega
        · intro e' inf z base sLen sCap olds ht' hi hz hzs ho hroom h63 hb
          rw [ht] at ht'
          obtain rfl : e = e' := by injection ht' with h1; injection h1
          have hzz : zv = z := by
            rw [hi0] at hi
            obtain rfl := Option.some.inj hi
            rw [hzz0] at hz
            exact Option.some.inj hz
          subst hzz
          rw [hyl] at hroom h63 hb ⊢
          exact run_appendN_grow ht ht2 hi hz hzs ho hroom h63 hb
      · cases hap
    · cases hap
  · cases hap

end
end Go.Dv

/-
  DERIVED, MY OWN. OPERATIONS, REGIONS, CODE: weakest preconditions over a call's state, held against the machine's.
-/




set_option autoImplicit false
namespace Go.Dv
open Go Go.RowKit

def evEff (P : Program) (T : Tbl) (σ : St) (s g : Nat) : Op → Option (AV × St)
  | .store t p v => (storeAV P σ t (σ.eval p) (σ.eval v)).map fun σ' => (.junk, σ')
  | .call { callee := .builtin b, args, argTypes } =>
    match b, args.toList, argTypes.toList with
    | .append, [x, y], [t, t2] => if notInt P t2 then appendX P σ s g t (σ.eval x) (deRc (σ.eval y)) else appendN P σ s g t t2 (σ.eval x) (σ.eval y)
    | .copy, [x, y], [t, _] => copyAV P σ t (deRc (σ.eval x)) (deRc (σ.eval y))
    | _, _, _ => none
  | .call { callee := .value f, args, .. } =>
    match σ.eval f with
    | .clo fid caps => evCall T σ s g fid (args.toList.map σ.eval ++ caps)
    | _ => none
  | _ => none

def St.setCtr (σ : St) (c : Nat) : St := { σ with ctr := c }

def dstB (n : Nat) (o : Oper) : Bool := match o.dst with | some d => decide (d < n) | none => true

/-- One operation; 'off': where the names of what the frame makes begin. -/
def evStep (P : Program) (T : Tbl) (n off : Nat) (σ : St) (g : Nat) (o : Oper) : Option St :=
  if dstB n o then
    match evPure P σ (off + o.dst.getD 0) g o.op with
    | some (v, none) => some (σ.put o.dst v)
    | some (v, some ob) => some ((σ.setOwn (off + o.dst.getD 0) (some ob)).put o.dst v)
    | none =>
      match evEff P T σ (off + o.dst.getD 0) g o.op with
      | some (v, σ') => some (σ'.put o.dst v)
      | none => none
  else none

def TblOk' (P : Program) (T : Tbl) : Prop := TblOk P T ∧ ∀ f sp, T f = some sp → ∀ args w, (callFunc f args).run P w = .ok (.enter f args) w

section
variable {P : Program} {T : Tbl} {G : Gh} {V : Nat → Prop} {A0 : Nat → Prop} {M : Nat → Option MR} {w0 w : World} {X : Aux} {n : Nat} {σ : St} {a : Act}

theorem dst_ok {o : Oper} (h : dstB n o = true) : ∀ d, o.dst = some d → d < n := by
  intro d hd
  unfold dstB at h
  rw [hd] at h
  simpa using h

theorem Rel.ext_put {G' : Gh} {V' : Nat → Prop} {w' : World} {σ' : St} (h : Rel X G' V' A0 M w0 n σ' a w') {o : Oper} (hd : ∀ d, o.dst = some d → d < n) {v : AV} {u : Value} (hv : VR G' w' v u) :
    Rel X G' V' A0 M w0 n (σ'.put o.dst v) (a.put o.dst u) w' := h.put hv hd

theorem evEff_sound (hT : TblOk' P T) (h : Rel X G V A0 M w0 n σ a w) {o : Oper} {g s : Nat} {v : AV} {σ' : St} {V' : Nat → Prop} (he : evEff P T σ s g o.op = some (v, σ')) (hg : ¬ V g)
    (hV : ∀ g', V g' → V' g') (hVg : V' g) {next : Act → World → Prop} {Q : Exit → Act → World → Prop}
    (hn : ∀ u w' G', VR G' w' v u → Rel X G' V' A0 M w0 n σ' a w' → next (a.put o.dst u) w') : o.wp P a w next Q := by
  have hg' : ∀ s', ¬ G.U s' g := fun s' hu => hg (h.used s' g hu)
  unfold Oper.wp
  obtain ⟨dst, op, ty, pos, after, guard⟩ := o
  simp only at he hn ⊢
  cases op with
  | store t p v' =>
    simp only [evEff] at he
    cases hs : storeAV P σ t (σ.eval p) (σ.eval v') with
    | none => simp [hs] at he
    | some σ1 =>
      simp [hs] at he
      obtain ⟨rfl, rfl⟩ := he
      obtain ⟨w', G', hr, hrel, hext⟩ := storeAV_sound h (eval_vr h.env p) (eval_vr h.env v') hs
      simp only [execOp, Sem.run_bind, hr, Result.andThen_ok, Sem.run_pure, Oper.upon_skip]
      exact hn undef w' G' (.junk _) (hrel.mono hV)
  | call c =>
    obtain ⟨callee, args, argTypes⟩ := c
    cases callee with
    | builtin b =>
      simp only [evEff] at he
      split at he
      · rename_i x y t t2 hargs hty
        split at he
        · rename_i hni
          have e1 : args = #[x, y] := by apply Array.ext'; simpa using hargs
          have e2 : argTypes = #[t, t2] := by apply Array.ext'; simpa using hty
          subst e1; subst e2
          obtain ⟨u, w', G', hr, hv, hrel, hext⟩ := appendX_sound (ty := ty) h (eval_vr h.env x) (eval_vr h.env y).deRc hni he hg' hV hVg
          simp only [execOp, resolve, invoke, builtin, Sem.run_bind, Sem.run_pure, Result.andThen_ok, List.map_toArray, List.map_cons, List.map_nil, hr, Oper.upon_value]
          exact hn u w' G' hv hrel
        · have e1 : args = #[x, y] := by apply Array.ext'; simpa using hargs
          have e2 : argTypes = #[t, t2] := by apply Array.ext'; simpa using hty
          subst e1; subst e2
          obtain ⟨u, w', G', hr, hv, hrel, hext⟩ := appendN_sound (ty := ty) h (eval_vr h.env x) (eval_vr h.env y) he hg' hV hVg
          simp only [execOp, resolve, invoke, builtin, Sem.run_bind, Sem.run_pure, Result.andThen_ok, List.map_toArray, List.map_cons, List.map_nil, hr, Oper.upon_value]
          exact hn u w' G' hv hrel
      · rename_i x y t t2 hargs hty
        have e1 : args = #[x, y] := by apply Array.ext'; simpa using hargs
        have e2 : argTypes = #[t, t2] := by apply Array.ext'; simpa using hty
        subst e1; subst e2
        obtain ⟨u, w', G', hr, hv, hrel, hext⟩ := copyAV_sound (ty := ty) (t2 := t2) h (eval_vr h.env x).deRc (eval_vr h.env y).deRc he
        simp only [execOp, resolve, invoke, builtin, Sem.run_bind, Sem.run_pure, Result.andThen_ok, List.map_toArray, List.map_cons, List.map_nil, hr, Oper.upon_value]
        exact hn u w' G' hv (hrel.mono hV)
      · cases he
    | value f =>
      simp only [evEff] at he
      split at he
      · rename_i fid caps hf
        have hfv := eval_vr h.env f
        rw [hf] at hfv
        generalize hfu : a.eval f = fu at hfv
        cases hfv with
        | clo _ _ us hs hr =>
          have hT2 : ∃ sp, T fid = some sp := by
            unfold evCall at he
            cases ht : T fid with
            | none => simp [ht] at he
            | some sp => exact ⟨sp, rfl⟩
          obtain ⟨sp, hsp⟩ := hT2
          have hcall := hT.2 fid sp hsp
          have hc := evCall_sound (us := args.toList.map a.eval ++ us.toList) hT.1 h (by simp [hs]) (fun k v u h1 h2 => by
            rcases Nat.lt_or_ge k args.toList.length with hk | hk
            · rw [List.getElem?_append_left (by simpa using hk)] at h1 h2
              rw [List.getElem?_map] at h1 h2
              cases hx : args.toList[k]? with
              | none => rw [hx] at h1; simp at h1
              | some x =>
                rw [hx] at h1 h2
                simp at h1 h2
                subst h1; subst h2
                exact eval_vr h.env x
            · rw [List.getElem?_append_right (by simpa using hk)] at h1 h2
              simp at h1 h2
              have := hr _ v h1
              simp [h2] at this
              exact this) he hg hV hVg
          have hargs : (args.toList.map a.eval ++ us.toList).toArray = args.map a.eval ++ us := by
            apply Array.ext'; simp
          rw [hargs] at hc
          simp only [execOp, resolve, Sem.run_bind, Sem.run_pure, Result.andThen_ok, hfu, Deferred.ofValue, invoke, hcall, Array.empty_append, Oper.upon_enter]
          refine hc.mono fun e w' ⟨u, G', he', hv, hrel⟩ => ?_
          subst he'
          exact hn u w' G' hv hrel
      · cases he
    | invoke r m => simp [evEff] at he
  | _ => simp [evEff] at he

theorem evStep_sound (hT : TblOk' P T) (h : Rel X G V A0 M w0 n σ a w) {o : Oper} {g off : Nat} {σ' : St} {V' : Nat → Prop} (he : evStep P T n off σ g o = some σ') (hg : ¬ V g)
    (hV : ∀ g', V g' → V' g') (hVg : V' g) {next : Act → World → Prop} {Q : Exit → Act → World → Prop}
    (hn : ∀ a' w' G', Rel X G' V' A0 M w0 n σ' a' w' → next a' w') : o.wp P a w next Q := by
  unfold evStep at he
  split at he
  · rename_i hd
    have hd' := dst_ok hd
    split at he
    · rename_i v hp
      obtain rfl := Option.some.inj he
      obtain ⟨u, hr, hv⟩ := evPure_sound h.env h.hO hp
      unfold Oper.wp
      rw [hr]
      exact hn _ _ G ((h.put hv hd').mono hV)
    · rename_i v ob hp
      obtain rfl := Option.some.inj he
      obtain ⟨hmt, u, arr, ty, hr, hnew⟩ := evPure_sound h.env h.hO hp
      unfold Oper.wp
      rw [hr]
      obtain ⟨G', _, hv, hrel, _, _⟩ := h.new hnew hmt (fun hu => hg (h.used _ g hu)) hV hVg
      exact hn _ _ G' (hrel.put hv hd')
    · split at he
      · rename_i v σ1 hef
        obtain rfl := Option.some.inj he
        exact evEff_sound hT h hef hg hV hVg fun u w' G' hv hrel => hn _ _ G' (hrel.put hv hd')
      · cases he
  · cases he

end

/-! ### regions -/
/-- The answer that guards an operation. -/
def gval (σ : St) (ops : Array Oper) (j : Nat) : Option (Option Bool) :=
  match (ops[j]?).bind (·.dst) with
  | some t => match σ.env t with | .d (.val (.bool b)) _ => some (some b) | .tup [] => some none | _ => none
  | none => none

/-- A call whose effect on the state is told as a whole: the name for what it makes, a generation, the arguments; what holds behind it. -/
abbrev Tr := Nat → Nat → List AV → (AV → St → Prop) → St → Prop

/-- The call of an iterator: the yield's name and generation, what it has captured, what a call of yield does; what holds behind it. -/
abbrev ITr := Nat → Nat → List AV → Tr → (St → Prop) → St → Prop

structure Big where
  fn : FuncId → Option Tr
  yl : Option Tr
  it : FuncId → Option ITr

def Big.none : Big := ⟨fun _ => .none, .none, fun _ => .none⟩

def evBig (E : Big) (σ : St) (s : Nat) : Op → Option ((AV → St → Prop) → Prop)
  | .call { callee := .value f, args, .. } =>
    match σ.eval f with
    | .clo fid caps => (E.fn fid).map fun tr K => tr s 0 (args.toList.map σ.eval ++ caps) K σ
    | .yld s' g' => E.yl.map fun tr K => tr s' g' (args.toList.map σ.eval) K σ
    | _ => none
  | _ => none

/-- One operation, by either road. -/
def evOne (P : Program) (T : Tbl) (E : Big) (n off : Nat) (σ : St) (g : Nat) (o : Oper) (K : St → Prop) : Prop :=
  (∃ σ', evStep P T n off σ g o = some σ' ∧ K σ') ∨
  (dstB n o = true ∧ ∃ tr, evBig E σ (off + o.dst.getD 0) o.op = some tr ∧ tr fun v σ' => K (σ'.put o.dst v))

def evOps (P : Program) (T : Tbl) (E : Big) (n off : Nat) (ops : Array Oper) (c : Nat) : Nat → List Oper → St → (St → Prop) → Prop
  | _, [], σ, K => K σ
  | i, o :: rest, σ, K =>
    match o.guard with
    | .none => evOne P T E n off σ (c + i) o fun σ' => evOps P T E n off ops c (i + 1) rest σ' K
    | some (j, want) => ∃ b, gval σ ops j = some b ∧ (b = some want → evOne P T E n off σ (c + i) o fun σ' => evOps P T E n off ops c (i + 1) rest σ' K) ∧
        (b ≠ some want → dstB n o = true ∧ evOps P T E n off ops c (i + 1) rest (σ.put o.dst (.tup [])) K)

/-! ### nothing but whole calls takes generations -/
theorem put_ctr0 (σ : St) (d : Option Tmp) (v : AV) : (σ.put d v).ctr = σ.ctr := by cases d <;> rfl
theorem kill_ctr0 (σ : St) (ss : List Nat) : (σ.kill ss).ctr = σ.ctr := by unfold St.kill; split <;> rfl
theorem storeAV_ctr {P : Program} {σ σ' : St} {t : TypeId} {p v : AV} (h : storeAV P σ t p v = some σ') : σ'.ctr = σ.ctr := by
  unfold storeAV at h
  simp only at h
  repeat' split at h
  all_goals first | (cases h; done) | (obtain rfl := Option.some.inj h; rfl)
theorem appendAV_ctr {P : Program} {σ σ' : St} {s g : Nat} {t : TypeId} {x y v : AV} (h : appendAV P σ s g t x y = some (v, σ')) : σ'.ctr = σ.ctr := by
  unfold appendAV at h
  repeat' split at h
  all_goals first | (cases h; done) | (obtain ⟨_, rfl⟩ := Prod.mk.inj (Option.some.inj h); rfl)
theorem copyAV_ctr {P : Program} {σ σ' : St} {t : TypeId} {x y v : AV} (h : copyAV P σ t x y = some (v, σ')) : σ'.ctr = σ.ctr := by
  unfold copyAV at h
  repeat' split at h
  all_goals first | (cases h; done) | (obtain ⟨_, rfl⟩ := Prod.mk.inj (Option.some.inj h); rfl)
theorem setMut_ctr (σ : St) (v : AV) (fr : Bool) (xs : List (List Data)) : (setMut σ v fr xs).ctr = σ.ctr := by
  unfold setMut
  repeat' split
  all_goals rfl
theorem setMuts_ctr (σ : St) : ∀ (ms : List Bool) (vs : List AV) (o : Option (Bool × List (List Data))), (setMuts σ ms vs o).ctr = σ.ctr
  | [], _, _ => by cases ‹List AV› <;> rfl
  | m :: ms, [], _ => rfl
  | m :: ms, v :: vs, .none => rfl
  | m :: ms, v :: vs, some (fr, xs) => by
    simp only [setMuts]
    split
    · exact setMut_ctr _ _ _ _
    · exact setMuts_ctr σ ms vs _
theorem resOwn_ctr (s g : Nat) : ∀ (rs : List Res) (σ : St), (resOwn s g rs σ).ctr = σ.ctr
  | [], _ => rfl
  | .own ty esz fr xs :: rs, σ => (resOwn_ctr s g rs _).trans rfl
  | .sc _ _ :: rs, σ => resOwn_ctr s g rs σ
  | .ag _ _ :: rs, σ => resOwn_ctr s g rs σ
theorem evCall_ctr {T : Tbl} {σ σ' : St} {s g : Nat} {f : FuncId} {vs : List AV} {v : AV} (h : evCall T σ s g f vs = some (v, σ')) : σ'.ctr = σ.ctr := by
  unfold evCall at h
  simp only at h
  repeat' split at h
  all_goals first
    | (cases h; done)
    | (obtain ⟨_, rfl⟩ := Prod.mk.inj (Option.some.inj h); rw [resOwn_ctr, setMuts_ctr]; done)
    | (obtain ⟨_, rfl⟩ := Prod.mk.inj (Option.some.inj h); rw [resOwn_ctr, setMuts_ctr]; first | rfl | (exact kill_ctr0 _ _) | (split <;> first | rfl | exact kill_ctr0 _ _))
theorem evEff_ctr {P : Program} {T : Tbl} {σ σ' : St} {s g : Nat} {o : Op} {v : AV} (h : evEff P T σ s g o = some (v, σ')) : σ'.ctr = σ.ctr := by
  unfold evEff at h
  repeat' split at h
  all_goals first
    | (cases h; done)
    | exact appendX_ctr appendAV_ctr h
    | exact appendN_ctr h
    | exact copyAV_ctr h
    | exact evCall_ctr h
    | (rename_i t p v'; cases hs : storeAV P σ t (σ.eval p) (σ.eval v') with
       | none => simp [hs] at h
       | some σ1 => simp [hs] at h; obtain ⟨_, rfl⟩ := h; exact storeAV_ctr hs)
theorem evStep_ctr {P : Program} {T : Tbl} {n off : Nat} {σ σ' : St} {g : Nat} {o : Oper} (h : evStep P T n off σ g o = some σ') : σ'.ctr = σ.ctr := by
  unfold evStep at h
  repeat' split at h
  all_goals first
    | (cases h; done)
    | (obtain rfl := Option.some.inj h; rw [put_ctr0]; done)
    | (obtain rfl := Option.some.inj h; rw [put_ctr0]; first | rfl | (exact evEff_ctr (by assumption)))
theorem evStep_nodefer {P : Program} {T : Tbl} {n off : Nat} {σ σ' : St} {g : Nat} {o : Oper} (h : evStep P T n off σ g o = some σ') : ∀ c, o.op ≠ .defer c := by
  intro c e
  unfold evStep at h
  rw [e] at h
  simp [evPure, evEff] at h

/-! ### the machine's side: in a frame, a round's too -/
def wideR (ro : Option Nat) : Fence := { Fence.wide with round := ro }

theorem wideR_fenced (P : Program) (ro : Option Nat) (m : Machine) : m.fenced P (wideR ro) := fenced_wide P m
theorem wideR_room (ro : Option Nat) (k : Nat) : (wideR ro).room k := room_wide k
theorem callsIn_wideR {ro : Option Nat} {k : Nat} {P : Program} {f : FuncId} {args : Array Value} {w : World} {R : Ending → World → Prop} : CallsIn (wideR ro) k P f args w R ↔ Calls P f args w R :=
  callsIn_wide (n := k)
theorem rowsIn_wideR {ro : Option Nat} {k : Nat} {P : Program} {row : String} {args : Array Value} {w : World} {R : Value → World → Prop} (h : Rows P row args w R) : RowsIn (wideR ro) k P row args w R :=
  fun c cs _ => let ⟨v, w', r, s⟩ := h c cs; ⟨v, w', r, stepsIn_wide.2 s⟩

theorem wpIn_of_wp {ro : Option Nat} {k : Nat} {P : Program} {o : Oper} {a : Act} {w : World} {next : Act → World → Prop} {Q : Exit → Act → World → Prop} (hd : ∀ c, o.op ≠ .defer c)
    (h : o.wp P a w next Q) : o.wpIn (wideR ro) k P a w next Q := by
  refine ⟨fun _ _ => trivial, ?_⟩
  show o.uponIn (wideR ro) k P a next Q ((o.semAt ro a.eval).run P w)
  rw [Oper.semAt_eq ro a.eval o hd]
  unfold Oper.wp at h
  generalize (execOp a.eval o).run P w = r at *
  cases r with
  | ok x w' =>
    cases x <;> simp only [Oper.upon, Oper.uponIn] at h ⊢ <;> first
      | exact h
      | exact ⟨fun hh => by simp [wideR, Fence.wide] at hh, callsIn_wideR.2 h⟩
      | exact ⟨fun hh => by simp [wideR, Fence.wide] at hh, rowsIn_wideR h⟩
  | halt x w' => cases x <;> simp only [Oper.upon, Oper.uponIn] at h ⊢ <;> exact h

/-- What a whole call of a function must bear out. -/
def TrOk (P : Program) (f : FuncId) (tr : Tr) : Prop :=
  ∀ (X : Aux) (G : Gh) (V A0 : Nat → Prop) (M : Nat → Option MR) (w0 w : World) (n : Nat) (σ : St) (a : Act) (s g : Nat) (vs : List AV) (us : List Value) (K : AV → St → Prop),
    Rel X G V A0 M w0 n σ a w → (∀ g', σ.ctr ≤ g' → ¬ V g') → us.length = vs.length → (∀ (k : Nat) v u, vs[k]? = some v → us[k]? = some u → VR G w v u) → tr s g vs K σ →
    Calls P f us.toArray w fun e w' => ∃ u v σ' G', e = .returned u ∧ VR G' w' v u ∧ σ.ctr ≤ σ'.ctr ∧ Rel X G' (fun g' => V g' ∨ (σ.ctr ≤ g' ∧ g' < σ'.ctr)) A0 M w0 n σ' a w' ∧ K v σ'

/-- What a whole call of a function without a body of its own must bear out. -/
def ExOk (P : Program) (f : FuncId) (tr : Tr) : Prop :=
  ∀ (X : Aux) (G : Gh) (V A0 : Nat → Prop) (M : Nat → Option MR) (w0 w : World) (n : Nat) (σ : St) (a : Act) (s g : Nat) (vs : List AV) (us : List Value) (K : AV → St → Prop),
    Rel X G V A0 M w0 n σ a w → (∀ g', σ.ctr ≤ g' → ¬ V g') → us.length = vs.length → (∀ (k : Nat) v u, vs[k]? = some v → us[k]? = some u → VR G w v u) → tr s g vs K σ →
    ∃ u v σ' G' w', (callFunc f us.toArray).run P w = .ok (.value u) w' ∧ VR G' w' v u ∧ σ.ctr ≤ σ'.ctr ∧ Rel X G' (fun g' => V g' ∨ (σ.ctr ≤ g' ∧ g' < σ'.ctr)) A0 M w0 n σ' a w' ∧ K v σ'

/-- What a call of yield must bear out, where these frames wait. -/
def YlOk (P : Program) (fr0 : List Fr) (A0 : Nat → Prop) (M : Nat → Option MR) (w0 : World) (tr : Tr) : Prop :=
  ∀ (X : Aux) (fs : List Fr) (G : Gh) (V : Nat → Prop) (w : World) (n : Nat) (σ : St) (a : Act) (s g : Nat) (u0 : Value) (vs : List AV) (us : List Value) (K : AV → St → Prop) (ro : Option Nat) (k : Nat),
    X.fr = fs ++ fr0 → Rel X G V A0 M w0 n σ a w → (∀ g', σ.ctr ≤ g' → ¬ V g') → VR G w (.yld s g) u0 → us.length = vs.length → (∀ (k : Nat) v u, vs[k]? = some v → us[k]? = some u → VR G w v u) → tr s g vs K σ →
    ∃ l fn tmps assign body, u0 = .func (.yield l) #[] #[] ∧ (Instr.yield l us.toArray).run P w = .ok (.round l fn tmps assign body) w ∧
      RoundIn (wideR ro) k P l fn tmps assign body w fun e w' => ∃ u v σ' G', e = .returned u ∧ VR G' w' v u ∧ σ.ctr ≤ σ'.ctr ∧ Rel X G' (fun g' => V g' ∨ (σ.ctr ≤ g' ∧ g' < σ'.ctr)) A0 M w0 n σ' a w' ∧ K v σ'

/-- What the call of an iterator must bear out. -/
def ITrOk (P : Program) (f : FuncId) (itr : ITr) : Prop :=
  ∀ (X : Aux) (G : Gh) (V A0 : Nat → Prop) (M : Nat → Option MR) (w0 w : World) (n : Nat) (σ : St) (a : Act) (s g : Nat) (u0 : Value) (vs : List AV) (us : List Value) (Y : Tr) (K : St → Prop),
    Rel X G V A0 M w0 n σ a w → (∀ g', σ.ctr ≤ g' → ¬ V g') → VR G w (.yld s g) u0 → us.length = vs.length → (∀ (k : Nat) v u, vs[k]? = some v → us[k]? = some u → VR G w v u) →
    YlOk P (⟨σ.env, a⟩ :: X.fr) A0 M w0 Y → itr s g vs Y K σ →
    Calls P f (u0 :: us).toArray w fun e w' => ∃ u σ' G', e = .returned u ∧ σ.ctr ≤ σ'.ctr ∧ Rel X G' (fun g' => V g' ∨ (σ.ctr ≤ g' ∧ g' < σ'.ctr)) A0 M w0 n σ' a w' ∧ K σ'

structure BigOk (P : Program) (E : Big) (fr0 : List Fr) (A0 : Nat → Prop) (M : Nat → Option MR) (w0 : World) : Prop where
  fn : ∀ f tr, E.fn f = some tr → (TrOk P f tr ∧ ∀ args w, (callFunc f args).run P w = .ok (.enter f args) w) ∨ ExOk P f tr
  yl : ∀ tr, E.yl = some tr → YlOk P fr0 A0 M w0 tr
  it : ∀ f itr, E.it f = some itr → ITrOk P f itr ∧ ∀ args w, (callFunc f args).run P w = .ok (.enter f args) w

theorem bigOk_none {P : Program} {fr0 : List Fr} {A0 : Nat → Prop} {M : Nat → Option MR} {w0 : World} : BigOk P Big.none fr0 A0 M w0 :=
  ⟨fun _ _ h => by simp [Big.none] at h, fun _ h => by simp [Big.none] at h, fun _ _ h => by simp [Big.none] at h⟩

section
variable {P : Program} {T : Tbl} {E : Big} {G : Gh} {V : Nat → Prop} {A0 : Nat → Prop} {M : Nat → Option MR} {w0 w : World} {X : Aux} {fr0 : List Fr} {n off : Nat} {σ : St} {a : Act} {ro : Option Nat} {k : Nat}

theorem VR.undef {G : Gh} {w : World} : VR G w (.tup []) undef := .tup [] #[] rfl (fun k a h => by simp at h)

theorem VR.undef_inv {G : Gh} {w : World} {u : Value} (h : VR G w (.tup []) u) : u = .tuple #[] := by
  cases h with
  | tup _ vs hs _ => simp at hs; subst hs; rfl

theorem gval_sound (h : Rel X G V A0 M w0 n σ a w) {ops : Array Oper} {j : Nat} {b : Option Bool} (hg : gval σ ops j = some b) : yielded ops a.tmps j = b := by
  unfold gval at hg
  unfold yielded
  cases ht : (ops[j]?).bind (·.dst) with
  | none => simp [ht] at hg
  | some t =>
    simp only [ht] at hg
    split at hg
    · rename_i b' fr he
      obtain rfl := Option.some.inj hg
      have := h.env t
      rw [he] at this
      obtain ⟨hu, _⟩ := this.val_inv
      simp only [Option.bind_some]
      rw [Array.getD_eq_getD_getElem?] at hu
      cases hx : a.tmps[t]? with
      | none => rw [hx] at hu; simp [Go.undef] at hu
      | some x => rw [hx] at hu; simp at hu; subst hu; rfl
    · rename_i he
      obtain rfl := Option.some.inj hg
      have := h.env t
      rw [he] at this
      have hu := this.undef_inv
      simp only [Option.bind_some]
      rw [Array.getD_eq_getD_getElem?] at hu
      cases hx : a.tmps[t]? with
      | none => rfl
      | some x => rw [hx] at hu; simp at hu; subst hu; rfl
    · cases hg

/-- One operation: the generations used are those of before, its own, and those that a whole call took. -/
theorem evOne_sound (hT : TblOk' P T) (hE : BigOk P E fr0 A0 M w0) (hX : ∃ fs, X.fr = fs ++ fr0) (h : Rel X G V A0 M w0 n σ a w) {o : Oper} {g : Nat} {K : St → Prop} (he : evOne P T E n off σ g o K) (hg : ¬ V g)
    (hc : ∀ g', σ.ctr ≤ g' → ¬ V g') {next : Act → World → Prop} {Q : Exit → Act → World → Prop}
    (hn : ∀ σ' a' w' G', σ.ctr ≤ σ'.ctr → Rel X G' (fun g' => V g' ∨ g' = g ∨ (σ.ctr ≤ g' ∧ g' < σ'.ctr)) A0 M w0 n σ' a' w' → K σ' → next a' w') : o.wpIn (wideR ro) k P a w next Q := by
  rcases he with ⟨σ', hs, hK⟩ | ⟨hd, tr, hb, htr⟩
  · refine wpIn_of_wp (evStep_nodefer hs) (evStep_sound hT (V' := fun g' => V g' ∨ g' = g) h hs hg (fun _ h => .inl h) (.inr rfl) fun a' w' G' hr => hn σ' a' w' G' (by rw [evStep_ctr hs]; exact Nat.le_refl _) (hr.mono fun g' hg' => ?_) hK)
    rcases hg' with h1 | h1
    · exact .inl h1
    · exact .inr (.inl h1)
  · have hd' := dst_ok hd
    refine ⟨fun _ _ => trivial, ?_⟩
    obtain ⟨dst, op, ty, pos, after, guard⟩ := o
    simp only at hb hn hd' htr ⊢
    unfold evBig at hb
    split at hb
    · rename_i f args tys
      have hf := eval_vr h.env f
      have hargs : ∀ (k : Nat) v u, (args.toList.map σ.eval)[k]? = some v → (args.toList.map a.eval)[k]? = some u → VR G w v u := fun k v u h1 h2 => by
        rw [List.getElem?_map] at h1 h2
        cases hx : args.toList[k]? with
        | none => rw [hx] at h1; simp at h1
        | some x => rw [hx] at h1 h2; simp at h1 h2; subst h1; subst h2; exact eval_vr h.env x
      have hsem : (Oper.semAt ro a.eval ⟨dst, .call ⟨.value f, args, tys⟩, ty, pos, after, guard⟩) = execOp a.eval ⟨dst, .call ⟨.value f, args, tys⟩, ty, pos, after, guard⟩ := Oper.semAt_eq _ _ _ (fun c e => by cases e)
      show Oper.uponIn (wideR ro) k P _ a next Q ((Oper.semAt ro a.eval _).run P w)
      rw [hsem]
      split at hb
      · rename_i fid caps hev
        cases hfn : E.fn fid with
        | none => simp [hfn] at hb
        | some tr' =>
          simp [hfn] at hb
          subst hb
          rw [hev] at hf
          generalize hfu : a.eval f = fu at hf
          cases hf with
          | clo _ _ us hs hr =>
            have hlen' : (args.toList.map a.eval ++ us.toList).length = (args.toList.map σ.eval ++ caps).length := by simp [hs]
            have hvr' : ∀ (k : Nat) v u, (args.toList.map σ.eval ++ caps)[k]? = some v → (args.toList.map a.eval ++ us.toList)[k]? = some u → VR G w v u := fun k v u h1 h2 => by
              rcases Nat.lt_or_ge k args.toList.length with hk | hk
              · rw [List.getElem?_append_left (by simpa using hk)] at h1 h2
                exact hargs k v u h1 h2
              · rw [List.getElem?_append_right (by simpa using hk)] at h1 h2
                simp at h1 h2
                have := hr _ v h1
                simp [h2] at this
                exact this
            have hargs' : (args.toList.map a.eval ++ us.toList).toArray = args.map a.eval ++ us := by apply Array.ext'; simp
            rcases hE.fn fid tr' hfn with ⟨htok, hcall⟩ | hex
            · have hc' := htok X G V A0 M w0 w n σ a (off + dst.getD 0) 0 _ (args.toList.map a.eval ++ us.toList) _ h hc hlen' hvr' htr
              rw [hargs'] at hc'
              simp only [execOp, resolve, Sem.run_bind, Sem.run_pure, Result.andThen_ok, hfu, Deferred.ofValue, invoke, hcall, Array.empty_append, Oper.uponIn_enter]
              refine ⟨fun hh => by simp [wideR, Fence.wide] at hh, callsIn_wideR.2 (hc'.mono fun e w' ⟨u, v, σ', G', he', hv, hct, hrel, hk⟩ => ?_)⟩
              subst he'
              exact hn _ _ w' G' (by rw [put_ctr0]; exact hct) ((hrel.put hv hd').mono fun g' hg' => by
                rw [put_ctr0]
                rcases hg' with h1 | h1
                · exact .inl h1
                · exact .inr (.inr h1)) hk
            · obtain ⟨u, v, σ', G', w', hrun, hv, hct, hrel, hk⟩ := hex X G V A0 M w0 w n σ a (off + dst.getD 0) 0 _ (args.toList.map a.eval ++ us.toList) _ h hc hlen' hvr' htr
              rw [hargs'] at hrun
              simp only [execOp, resolve, Sem.run_bind, Sem.run_pure, Result.andThen_ok, hfu, Deferred.ofValue, invoke, hrun, Array.empty_append, Oper.uponIn_value]
              exact hn _ _ w' G' (by rw [put_ctr0]; exact hct) ((hrel.put hv hd').mono fun g' hg' => by
                rw [put_ctr0]
                rcases hg' with h1 | h1
                · exact .inl h1
                · exact .inr (.inr h1)) hk
      · rename_i s' g' hev
        cases hyl : E.yl with
        | none => simp [hyl] at hb
        | some tr' =>
          simp [hyl] at hb
          subst hb
          rw [hev] at hf
          obtain ⟨fs, hfs⟩ := hX
          obtain ⟨l, fn, tmps, assign, body, hu0, hy, hround⟩ := hE.yl tr' hyl X fs G V w n σ a s' g' (a.eval f) _ (args.toList.map a.eval) _ ro (k - 1) hfs h hc hf (by simp) hargs htr
          have hargs' : (args.toList.map a.eval).toArray = args.map a.eval := by apply Array.ext'; simp
          rw [hargs'] at hy
          have hrun : (execOp a.eval ⟨dst, .call ⟨.value f, args, tys⟩, ty, pos, after, guard⟩).run P w = .ok (.round l fn tmps assign body) w := by
            simp only [execOp, resolve, Sem.run_bind, Sem.run_pure, Result.andThen_ok, hu0, Deferred.ofValue, invoke, Array.empty_append, Array.append_empty]
            exact hy
          rw [hrun, Oper.uponIn_round]
          refine ⟨fun hh => by simp [wideR, Fence.wide] at hh, hround.mono fun e w' ⟨u, v, σ', G', he', hv, hct, hrel, hk⟩ => ?_⟩
          subst he'
          exact hn _ _ w' G' (by rw [put_ctr0]; exact hct) ((hrel.put hv hd').mono fun g' hg' => by
            rw [put_ctr0]
            rcases hg' with h1 | h1
            · exact .inl h1
            · exact .inr (.inr h1)) hk
      · cases hb
    · cases hb

/-- The generations that a frame has used: those of before it (V0), and those from its begin on. -/
def BV (V0 : Nat → Prop) (c0 top g : Nat) : Prop := V0 g ∨ (c0 ≤ g ∧ g < top)

/-- The generations of a region's operations lie from c on; those that whole calls take, from lo on. -/
def Vg (V0 : Nat → Prop) (c0 c i lo top g : Nat) : Prop := BV V0 c0 (c + i) g ∨ (lo ≤ g ∧ g < top)

theorem Vg_new {V0 : Nat → Prop} {c0 c i lo top g top' : Nat} (h0 : c0 ≤ c) (ht : top ≤ top') (hlo : lo ≤ top) (h : Vg V0 c0 c i lo top g ∨ g = c + i ∨ (top ≤ g ∧ g < top')) : Vg V0 c0 c (i + 1) lo top' g := by
  rcases h with ((h | h) | h) | h | h
  · exact .inl (.inl h)
  · exact .inl (.inr ⟨h.1, by omega⟩)
  · exact .inr ⟨h.1, by omega⟩
  · exact .inl (.inr ⟨by omega, by omega⟩)
  · exact .inr ⟨by omega, h.2⟩
theorem Vg_skip {V0 : Nat → Prop} {c0 c i lo top g : Nat} (h : Vg V0 c0 c i lo top g) : Vg V0 c0 c (i + 1) lo top g := by
  rcases h with (h | h) | h
  · exact .inl (.inl h)
  · exact .inl (.inr ⟨h.1, by omega⟩)
  · exact .inr h
theorem Vg_not {V0 : Nat → Prop} {c0 c i lo top g : Nat} (hV : ∀ g, V0 g → g < c0) (h0 : c0 ≤ c) (h1 : c + i < lo) (hlo : lo ≤ top) (hg : g = c + i ∨ top ≤ g) : ¬ Vg V0 c0 c i lo top g := by
  rintro ((h | h) | h)
  · have := hV g h; omega
  · omega
  · omega
theorem Vg_end {V0 : Nat → Prop} {c0 c i lo top g : Nat} (h0 : c0 ≤ c) (h1 : c + i ≤ lo) (hlo : lo ≤ top) (h : Vg V0 c0 c i lo top g) : BV V0 c0 top g := by
  rcases h with (h | h) | h
  · exact .inl h
  · exact .inr ⟨h.1, by omega⟩
  · exact .inr ⟨by omega, h.2⟩

theorem evOps_sound (hT : TblOk' P T) (hE : BigOk P E fr0 A0 M w0) (hX : ∃ fs, X.fr = fs ++ fr0) {V0 : Nat → Prop} {c0 : Nat} (hV : ∀ g, V0 g → g < c0) {ops : Array Oper} {c lo : Nat} (h0 : c0 ≤ c) {K : St → Prop} {Q : Exit → Act → World → Prop} : ∀ (l : List Oper) (i : Nat) (σ : St) (a : Act) (w : World) (G : Gh),
    Rel X G (Vg V0 c0 c i lo σ.ctr) A0 M w0 n σ a w → c + (i + l.length) ≤ lo → lo ≤ σ.ctr → (∀ k, k < l.length → ops[i + k]? = l[k]?) → evOps P T E n off ops c i l σ K →
    (∀ σ' a' w' G', lo ≤ σ'.ctr → Rel X G' (BV V0 c0 σ'.ctr) A0 M w0 n σ' a' w' → K σ' → Q .normal a' w') → wpOpsIn (wideR ro) k P ops Q (List.range' i l.length) a w
  | [], i, σ, a, w, G, h, h1, h2, _, he, hQ => by
    simp only [List.length_nil, List.range'_zero, wpOpsIn]
    exact hQ σ a w G h2 (h.mono fun g hg => Vg_end h0 (by simpa using h1) h2 hg) he
  | o :: rest, i, σ, a, w, G, h, h1, h2, hl, he, hQ => by
    have ho : ops[i]? = some o := by simpa using hl 0 (by simp)
    have hrest : ∀ k, k < rest.length → ops[i + 1 + k]? = rest[k]? := fun k hk => by
      have := hl (k + 1) (by simp; omega)
      simpa [Nat.add_assoc, Nat.add_comm 1 k] using this
    simp only [List.length_cons] at h1
    simp only [List.length_cons, List.range'_succ, wpOpsIn, ho]
    simp only [evOps] at he
    have step : evOne P T E n off σ (c + i) o (fun σ' => evOps P T E n off ops c (i + 1) rest σ' K) → o.wpIn (wideR ro) k P a w (wpOpsIn (wideR ro) k P ops Q (List.range' (i + 1) rest.length)) Q := by
      intro hs
      exact evOne_sound hT hE hX h hs (Vg_not hV h0 (by omega) h2 (.inl rfl)) (fun g' hg' => Vg_not hV h0 (by omega) h2 (.inr hg')) fun σ' a' w' G' hct hr hk => evOps_sound (c := c) (lo := lo) hT hE hX hV h0 rest (i + 1) σ' a' w' G' (hr.mono fun g' hg' => Vg_new h0 hct h2 hg') (by omega) (by omega) hrest hk hQ
    cases hgd : o.guard with
    | none =>
      rw [hgd] at he
      have hw : Region.wanted o (yielded ops a.tmps) = true := by simp [Region.wanted, hgd]
      rw [if_pos hw]
      exact step he
    | some p =>
      obtain ⟨j, want⟩ := p
      rw [hgd] at he
      obtain ⟨b, hb, h1', h2'⟩ := he
      have hy := gval_sound h hb
      by_cases hbw : b = some want
      · have hw : Region.wanted o (yielded ops a.tmps) = true := by simp [Region.wanted, hgd, hy, hbw]
        rw [if_pos hw]
        exact step (h1' hbw)
      · have hw : Region.wanted o (yielded ops a.tmps) = false := by simp [Region.wanted, hgd, hy, hbw]
        rw [if_neg (by simp [hw])]
        obtain ⟨hd, hk⟩ := h2' hbw
        exact ⟨fun _ _ => trivial, evOps_sound (c := c) (lo := lo) hT hE hX hV h0 rest (i + 1) _ _ w G ((h.put VR.undef (dst_ok hd)).mono (fun g hg => by rw [put_ctr0]; exact Vg_skip hg)) (by omega) (by rw [put_ctr0]; exact h2) hrest hk hQ⟩

end
end Go.Dv

/-
  DERIVED, MY OWN. REGIONS THAT DRAW THEIR ORDER (first part): what an operation gives does not turn when more is known.
-/

set_option autoImplicit false
namespace Go.Dv
open Go Go.RowKit

/-- The second state knows at least what the first one knows. -/
structure LE (σ σ' : St) : Prop where
  env : ∀ t, σ.env t = .junk ∨ σ'.env t = σ.env t
  own : ∀ s ob, σ.own s = some ob → σ'.own s = some ob

def AV.isJunk : AV → Bool
  | .junk => true
  | _ => false

def evCallQ (T : Tbl) (σ : St) (s g : Nat) (f : FuncId) (vs : List AV) : Option (AV × Option OB) :=
  match T f with
  | none => none
  | some sp =>
    match argsIn σ sp.modes vs with
    | none => none
    | some (ins, _, mm) =>
      match sp.run ins with
      | none => none
      | some out =>
        if mm = [] ∧ out.shares = false then
          match out.res.filter Res.isOwn with
          | [] => some (packAV (resAV s g out.res), none)
          | [.own ty esz fr xs] => some (packAV (resAV s g out.res), some (.row ty esz g true false fr xs))
          | _ => none
        else none

def known (σ : St) (xs : List Operand) : Bool := xs.all fun x => !(σ.eval x).isJunk

def njk (v : AV) : Option (AV × Option OB) := if v.isJunk then none else some (v, none)

def evQuiet (P : Program) (T : Tbl) (σ : St) (s g : Nat) (op : Op) : Option (AV × Option OB) :=
  match op with
  | .pick c a b =>
    match σ.eval c with
    | .d (.val (.bool t)) _ => njk (if t then σ.eval a else σ.eval b)
    | _ => none
  | .call { callee := .value f, args, .. } =>
    match σ.eval f with
    | .clo fid caps => if caps = [] then evCallQ T σ s g fid (args.toList.map σ.eval) else none
    | _ => none
  | op => if known σ op.operands.toList then evPure P σ s g op else none

section
variable {P : Program} {T : Tbl} {σ σ' : St}

theorem LE.eval (h : LE σ σ') (x : Operand) : σ.eval x = .junk ∨ σ'.eval x = σ.eval x := by
  cases x with
  | tmp t => exact h.env t
  | const v => exact .inr rfl
  | global g => exact .inl rfl
  | func f => exact .inr rfl

theorem LE.live (h : LE σ σ') {s g : Nat} (hl : σ.live s g = true) : σ'.live s g = true := by
  unfold St.live at hl ⊢
  cases ho : σ.own s with
  | none => simp [ho] at hl
  | some ob => rw [ho] at hl; rw [h.own s ob ho]; exact hl

theorem loadAV_mono (h : LE σ σ') {t : TypeId} {p v : AV} (hv : loadAV P σ t p = some v) : loadAV P σ' t p = some v := by
  unfold loadAV at hv ⊢
  split at hv
  · rename_i s g i k
    cases ho : σ.own s with
    | none => rw [ho] at hv; cases hv
    | some ob => rw [ho] at hv; rw [h.own s ob ho]; exact hv
  · exact hv
  · cases hv

theorem fieldAddrAV_mono (h : LE σ σ') {t : TypeId} {x v : AV} {f : Nat} (hv : fieldAddrAV P σ t x f = some v) : fieldAddrAV P σ' t x f = some v := by
  unfold fieldAddrAV at hv ⊢
  cases hp : fieldPlace? P t f with
  | none => simp [hp] at hv
  | some p =>
    obtain ⟨off, ft⟩ := p
    simp only [hp] at hv ⊢
    split at hv
    · cases hv
    · rename_i hz
      rw [if_neg hz]
      split at hv
      · split at hv
        · rename_i hl; rw [if_pos (h.live hl)]; exact hv
        · cases hv
      · exact hv
      · cases hv

theorem indexAddrAV_mono (h : LE σ σ') {t : TypeId} {x i v : AV} (hv : indexAddrAV P σ t x i = some v) : indexAddrAV P σ' t x i = some v := by
  unfold indexAddrAV at hv ⊢
  cases hi : intOfAV i with
  | none => simp [hi] at hv
  | some n =>
    simp only [hi] at hv ⊢
    split at hv
    · rename_i h0
      rw [if_pos h0]
      cases hu : P.underlying t with
      | none => simp [hu] at hv
      | some d =>
        simp only [hu] at hv ⊢
        cases d with
        | array m e =>
          simp only at hv ⊢
          split at hv
          · rename_i hc
            rw [if_pos hc]
            split at hv
            · split at hv
              · rename_i hl; rw [if_pos (h.live hl)]; exact hv
              · cases hv
            · exact hv
            · cases hv
          · cases hv
        | slice e =>
          simp only at hv ⊢
          split at hv
          · rename_i s g off len
            split at hv
            · rename_i hc
              rw [if_pos hc]
              cases ho : σ.own s with
              | none => rw [ho] at hv; cases hv
              | some ob => rw [ho] at hv; rw [h.own s ob ho]; exact hv
            · cases hv
          · exact hv
          · cases hv
        | _ => exact hv
    · cases hv

theorem sliceAV_mono (h : LE σ σ') {t : TypeId} {x v : AV} {lo hi : Option AV} (hv : sliceAV P σ t x lo hi = some v) : sliceAV P σ' t x lo hi = some v := by
  unfold sliceAV at hv ⊢
  cases hu : P.underlying t with
  | none => simp [hu] at hv
  | some d =>
    simp only [hu] at hv ⊢
    cases d with
    | slice e =>
      simp only at hv ⊢
      split at hv
      · exact hv
      · rename_i s g off len
        cases ho : σ.own s with
        | none => rw [ho] at hv; cases hv
        | some ob => rw [ho] at hv; rw [h.own s ob ho]; exact hv
      · rename_i s g off len cap
        cases ho : σ.own s with
        | none => rw [ho] at hv; cases hv
        | some ob => rw [ho] at hv; rw [h.own s ob ho]; exact hv
      · cases hv
    | _ => exact hv

theorem capAV_mono (h : LE σ σ') {t : TypeId} {x v : AV} (hv : capAV P σ t x = some v) : capAV P σ' t x = some v := by
  unfold capAV at hv ⊢
  generalize P.underlying t = d at hv ⊢
  split at hv
  · split at hv
    · rename_i hl; rw [if_pos (h.live hl)]; exact hv
    · cases hv
  · cases hv

theorem lenAV_mono (h : LE σ σ') {t : TypeId} {x v : AV} (hv : lenAV P σ t x = some v) : lenAV P σ' t x = some v := by
  unfold lenAV at hv ⊢
  generalize P.underlying t = d at hv ⊢
  split at hv
  · exact hv
  · exact hv
  · split at hv
    · rename_i hl; rw [if_pos (h.live hl)]; exact hv
    · cases hv
  · split at hv
    · rename_i hl; rw [if_pos (h.live hl)]; exact hv
    · cases hv
  · exact hv
  · cases hv

theorem binAV_mono (h : LE σ σ') {op : BinOp} {t : TypeId} {x y v : AV} (hv : binAV P σ op t x y = some v) : binAV P σ' op t x y = some v := by
  unfold binAV at hv ⊢
  split at hv
  · exact hv
  · exact hv
  · split at hv
    · rename_i hc; rw [if_pos ⟨hc.1, h.live hc.2⟩]; exact hv
    · cases hv
  · split at hv
    · rename_i hc; rw [if_pos ⟨hc.1, h.live hc.2⟩]; exact hv
    · cases hv
  · exact hv
  · exact hv
  · exact hv
  · cases hv

theorem toD0_mono (h : LE σ σ') {v : AV} {r : Data × Bool × List Nat} (hv : toD0 σ v = some r) : toD0 σ' v = some r := by
  unfold toD0 at hv ⊢
  cases v with
  | rs s g off len =>
    simp only at hv ⊢
    cases ho : σ.own s with
    | none => rw [ho] at hv; cases hv
    | some ob => rw [ho] at hv; rw [h.own s ob ho]; exact hv
  | d x fr => cases x <;> exact hv
  | _ => exact hv

theorem mapD_mono {f f' : AV → Option (Data × Bool × List Nat)} (hf : ∀ v r, f v = some r → f' v = some r) : ∀ {cs : List AV} {r : List Data × Bool × List Nat}, mapD f cs = some r → mapD f' cs = some r
  | [], r, h => h
  | a :: l, r, h => by
    simp only [mapD] at h ⊢
    cases ha : f a with
    | none => simp [ha] at h
    | some p =>
      cases hl : mapD f l with
      | none => simp [ha, hl] at h
      | some q => rw [ha, hl] at h; rw [hf a p ha, mapD_mono hf hl]; exact h

theorem toD1_mono (h : LE σ σ') {v : AV} {r : Data × Bool × List Nat} (hv : toD1 σ v = some r) : toD1 σ' v = some r := by
  cases v
  case rp s g i k =>
    simp only [toD1] at hv ⊢
    cases ho : σ.own s with
    | none => rw [ho] at hv; cases hv
    | some ob =>
      rw [ho] at hv
      rw [h.own s ob ho]
      cases ob with
      | row => cases hv
      | obj => cases hv
      | var ty g' mt cs =>
        simp only at hv ⊢
        split at hv
        · rename_i hc
          rw [if_pos hc]
          cases hm : mapD (toD0 σ) cs with
          | none => simp [hm] at hv
          | some p => rw [hm] at hv; rw [mapD_mono (fun v r hv => toD0_mono h hv) hm]; exact hv
        · cases hv
  all_goals (simp only [toD1] at hv ⊢; exact toD0_mono h hv)

theorem toD_mono (h : LE σ σ') {v : AV} {r : Data × Bool × List Nat} (hv : toD σ v = some r) : toD σ' v = some r := by
  cases v
  case ifc t x =>
    simp only [toD] at hv ⊢
    cases hx : toD1 σ x with
    | none => simp [hx] at hv
    | some p => rw [hx] at hv; rw [toD1_mono h hx]; exact hv
  case clo f caps =>
    simp only [toD] at hv ⊢
    cases hm : mapD (toD1 σ) caps with
    | none => simp [hm] at hv
    | some p => rw [hm] at hv; rw [mapD_mono (fun v r hv => toD1_mono h hv) hm]; exact hv
  all_goals (simp only [toD] at hv ⊢; exact toD1_mono h hv)

theorem argImm_mono (h : LE σ σ') {v : AV} {r : In × List Nat × List Nat} (hv : argImm σ v = some r) : argImm σ' v = some r := by
  unfold argImm at hv ⊢
  cases v with
  | agg cs =>
    simp only at hv ⊢
    cases hm : mapD (toD0 σ) cs with
    | none => simp [hm] at hv
    | some p => rw [hm] at hv; rw [mapD_mono (fun v r hv => toD0_mono h hv) hm]; exact hv
  | _ =>
    simp only at hv ⊢
    generalize hx : toD σ _ = y at hv
    cases y with
    | none => cases hv
    | some p => rw [toD_mono h hx]; exact hv

theorem argIn_junk {m : Bool} : argIn σ m .junk = none := by cases m <;> rfl

/-- The arguments of a quiet call: none is written, and none is unknown. -/
theorem argsIn_mono (h : LE σ σ') : ∀ (ms : List Bool) (xs : List Operand) (ins : List In) (ss : List Nat), argsIn σ ms (xs.map σ.eval) = some (ins, ss, []) → argsIn σ' ms (xs.map σ'.eval) = some (ins, ss, [])
  | [], [], ins, ss, hv => hv
  | [], _ :: _, _, _, hv => by simp [argsIn] at hv
  | _ :: _, [], _, _, hv => by simp [argsIn] at hv
  | m :: ms, x :: xs, ins, ss, hv => by
    simp only [List.map_cons, argsIn] at hv ⊢
    cases h1 : argIn σ m (σ.eval x) with
    | none => simp [h1] at hv
    | some p =>
      obtain ⟨i, s1, m1⟩ := p
      cases h2 : argsIn σ ms (xs.map σ.eval) with
      | none => simp [h1, h2] at hv
      | some q =>
        obtain ⟨is, s2, m2⟩ := q
        simp [h1, h2] at hv
        obtain ⟨rfl, rfl, rfl, rfl⟩ := hv
        have hx : σ'.eval x = σ.eval x := (h.eval x).resolve_left (fun e => by rw [e, argIn_junk] at h1; cases h1)
        have h1' : argIn σ' m (σ'.eval x) = some (i, s1, []) := by
          rw [hx]
          cases m with
          | true => obtain ⟨_, s, hs⟩ := argIn_mut_form h1; cases hs
          | false => simp only [argIn, Bool.false_eq_true, if_false] at h1 ⊢; exact argImm_mono h h1
        rw [h1', argsIn_mono h ms xs is s2 h2]
        rfl

/-- What an operation gives does not turn when more is known. -/
theorem evQuiet_mono (h : LE σ σ') {s g : Nat} {op : Op} {r : AV × Option OB} (hv : evQuiet P T σ s g op = some r) : evQuiet P T σ' s g op = some r := by
  have hev : ∀ x, (σ.eval x).isJunk = false → σ'.eval x = σ.eval x := fun x hx => (h.eval x).resolve_left (fun e => by rw [e] at hx; cases hx)
  have gen : ∀ (op : Op), ((∀ x ∈ op.operands.toList, σ'.eval x = σ.eval x) → evPure P σ s g op = some r → evPure P σ' s g op = some r) →
      (if known σ op.operands.toList then evPure P σ s g op else none) = some r → (if known σ' op.operands.toList then evPure P σ' s g op else none) = some r := by
    intro op hop hr
    split at hr
    · rename_i hk
      have hk1 : ∀ x ∈ op.operands.toList, (σ.eval x).isJunk = false := fun x hx => by
        have := List.all_eq_true.1 hk x hx
        simpa using this
      have hk' : known σ' op.operands.toList = true := List.all_eq_true.2 fun x hx => by rw [hev x (hk1 x hx)]; simp [hk1 x hx]
      rw [if_pos hk']
      exact hop (fun x hx => hev x (hk1 x hx)) hr
    · cases hr
  have mapEq : ∀ (xs : List Operand), (∀ x ∈ xs, σ'.eval x = σ.eval x) → xs.map σ'.eval = xs.map σ.eval := fun xs hx => List.map_congr_left hx
  have optEq : ∀ (o : Option Operand), (∀ x, o = some x → σ'.eval x = σ.eval x) → o.map σ'.eval = o.map σ.eval := fun o ho => by
    cases o with
    | none => rfl
    | some x => simp [ho x rfl]
  cases op
  case pick c x y =>
    simp only [evQuiet] at hv ⊢
    split at hv
    · rename_i t fr hc
      have hn : ∀ x, njk (σ.eval x) = some r → njk (σ'.eval x) = some r := fun x hx => by
        have : (σ.eval x).isJunk = false := by
          unfold njk at hx
          split at hx
          · cases hx
          · rename_i hj; simpa using hj
        rw [hev x this]; exact hx
      rw [hev c (by rw [hc]; rfl), hc]
      cases t with
      | true => exact hn x hv
      | false => exact hn y hv
    · cases hv
  case call c =>
    obtain ⟨callee, args, argTypes⟩ := c
    cases callee with
    | value f =>
      simp only [evQuiet] at hv ⊢
      split at hv
      · rename_i fid caps hf
        rw [hev f (by rw [hf]; rfl), hf]
        simp only
        split at hv
        · rename_i hc
          rw [if_pos hc]
          unfold evCallQ at hv ⊢
          cases hT : T fid with
          | none => simp [hT] at hv
          | some sp =>
            simp only [hT] at hv ⊢
            cases ha : argsIn σ sp.modes (args.toList.map σ.eval) with
            | none => simp [ha] at hv
            | some q =>
              obtain ⟨ins, ss, mm⟩ := q
              simp only [ha] at hv
              cases ho : sp.run ins with
              | none => simp [ho] at hv
              | some out =>
                simp only [ho] at hv
                split at hv
                · rename_i hcc
                  obtain ⟨rfl, hsh⟩ := hcc
                  rw [argsIn_mono h _ _ _ _ ha]
                  simp only [ho]
                  rw [if_pos ⟨trivial, hsh⟩]
                  exact hv
                · cases hv
        · cases hv
      · cases hv
    | builtin b =>
      refine gen _ (fun hx hp => ?_) hv
      simp only [Op.operands, Call.operands] at hx
      have hargs : args.toList.map σ'.eval = args.toList.map σ.eval := mapEq _ fun x hm => hx x (by simpa using hm)
      simp only [evPure] at hp ⊢
      split at hp
      · rename_i x t hxs hts
        rw [hx x (by simp [hxs])]
        cases hl : lenAV P σ t (σ.eval x) with
        | none => simp [hl] at hp
        | some v => rw [hl] at hp; rw [lenAV_mono h hl]; exact hp
      · rename_i x t hxs hts
        rw [hx x (by simp [hxs])]
        cases hl : capAV P σ t (σ.eval x) with
        | none => simp [hl] at hp
        | some v => rw [hl] at hp; rw [capAV_mono h hl]; exact hp
      · rename_i x rest hxs
        rw [hx x (by simp [hxs]), mapEq rest (fun y hy => hx y (by simp [hxs, hy]))]
        exact hp
      · rename_i x rest hxs
        rw [hx x (by simp [hxs]), mapEq rest (fun y hy => hx y (by simp [hxs, hy]))]
        exact hp
      · cases hp
    | invoke r m => simp [evQuiet, evPure] at hv
  case move x => exact gen (.move x) (fun hx hp => by simp only [evPure] at hp ⊢; rw [hx x (by simp [Op.operands])]; exact hp) hv
  case assign x => exact gen (.assign x) (fun hx hp => by simp only [evPure] at hp ⊢; rw [hx x (by simp [Op.operands])]; exact hp) hv
  case alloc e => exact gen (.alloc e) (fun hx hp => hp) hv
  case box e x => exact gen (.box e x) (fun hx hp => by simp only [evPure] at hp ⊢; rw [hx x (by simp [Op.operands])]; exact hp) hv
  case load t p =>
    refine gen (.load t p) (fun hx hp => ?_) hv
    simp only [evPure] at hp ⊢
    rw [hx p (by simp [Op.operands])]
    cases hl : loadAV P σ t (σ.eval p) with
    | none => simp [hl] at hp
    | some v => rw [hl] at hp; rw [loadAV_mono h hl]; exact hp
  case nilCheck x =>
    refine gen (.nilCheck x) (fun hx hp => ?_) hv
    simp only [evPure] at hp ⊢
    rw [hx x (by simp [Op.operands])]
    split at hp
    · split at hp
      · rename_i hl; rw [if_pos (h.live hl)]; exact hp
      · cases hp
    · exact hp
    · cases hp
  case binOp op t x y yt =>
    refine gen (.binOp op t x y yt) (fun hx hp => ?_) hv
    simp only [evPure] at hp ⊢
    rw [hx x (by simp [Op.operands]), hx y (by simp [Op.operands])]
    cases hl : binAV P σ op t (σ.eval x) (σ.eval y) with
    | none => simp [hl] at hp
    | some v => rw [hl] at hp; rw [binAV_mono h hl]; exact hp
  case unOp op t x => exact gen (.unOp op t x) (fun hx hp => by simp only [evPure] at hp ⊢; rw [hx x (by simp [Op.operands])]; exact hp) hv
  case convert src dst x => exact gen (.convert src dst x) (fun hx hp => by simp only [evPure] at hp ⊢; rw [hx x (by simp [Op.operands])]; exact hp) hv
  case makeInterface t x => exact gen (.makeInterface t x) (fun hx hp => by simp only [evPure] at hp ⊢; rw [hx x (by simp [Op.operands])]; exact hp) hv
  case slice t x lo hi mx =>
    cases mx with
    | some m => simp [evQuiet, evPure] at hv
    | none =>
      refine gen (.slice t x lo hi none) (fun hx hp => ?_) hv
      simp only [evPure] at hp ⊢
      rw [hx x (by simp [Op.operands]), optEq lo (fun y hy => hx y (by simp [Op.operands, hy])), optEq hi (fun y hy => hx y (by simp [Op.operands, hy]))]
      cases hl : sliceAV P σ t (σ.eval x) (lo.map σ.eval) (hi.map σ.eval) with
      | none => simp [hl] at hp
      | some v => rw [hl] at hp; rw [sliceAV_mono h hl]; exact hp
  case fieldAddr t x f =>
    refine gen (.fieldAddr t x f) (fun hx hp => ?_) hv
    simp only [evPure] at hp ⊢
    rw [hx x (by simp [Op.operands])]
    cases hl : fieldAddrAV P σ t (σ.eval x) f with
    | none => simp [hl] at hp
    | some v => rw [hl] at hp; rw [fieldAddrAV_mono h hl]; exact hp
  case field t x f => exact gen (.field t x f) (fun hx hp => by simp only [evPure] at hp ⊢; rw [hx x (by simp [Op.operands])]; exact hp) hv
  case indexAddr t x i =>
    refine gen (.indexAddr t x i) (fun hx hp => ?_) hv
    simp only [evPure] at hp ⊢
    rw [hx x (by simp [Op.operands]), hx i (by simp [Op.operands])]
    cases hl : indexAddrAV P σ t (σ.eval x) (σ.eval i) with
    | none => simp [hl] at hp
    | some v => rw [hl] at hp; rw [indexAddrAV_mono h hl]; exact hp
  case index t x i => exact gen (.index t x i) (fun hx hp => by simp only [evPure] at hp ⊢; rw [hx x (by simp [Op.operands]), hx i (by simp [Op.operands])]; exact hp) hv
  case extract x i => exact gen (.extract x i) (fun hx hp => by simp only [evPure] at hp ⊢; rw [hx x (by simp [Op.operands])]; exact hp) hv
  case makeSlice t l c => exact gen (.makeSlice t l c) (fun hx hp => by simp only [evPure] at hp ⊢; rw [hx l (by simp [Op.operands]), hx c (by simp [Op.operands])]; exact hp) hv
  case makeFunc fn first caps =>
    cases fn with
    | func f =>
      refine gen (.makeFunc (.func f) first caps) (fun hx hp => ?_) hv
      simp only [evPure] at hp ⊢
      rw [mapEq caps.toList (fun x hm => hx x (by simp [Op.operands]; exact .inr (by simpa using hm)))]
      exact hp
    | _ => simp [evQuiet, evPure] at hv
  case build t parts =>
    refine gen (.build t parts) (fun hx hp => ?_) hv
    simp only [evPure] at hp ⊢
    have : (parts.toList.map fun (i, x) => (i, σ'.eval x)) = parts.toList.map fun (i, x) => (i, σ.eval x) := List.map_congr_left fun p hm => by
      obtain ⟨i, x⟩ := p
      simp only [hx x (by simp [Op.operands]; exact ⟨i, by simpa using hm⟩)]
    rw [this]
    exact hp
  case buildSlice t len parts =>
    refine gen (.buildSlice t len parts) (fun hx hp => ?_) hv
    simp only [evPure, buildSliceAV] at hp ⊢
    have : (parts.toList.map fun (i, x) => (i, σ'.eval x)) = parts.toList.map fun (i, x) => (i, σ.eval x) := List.map_congr_left fun p hm => by
      obtain ⟨i, x⟩ := p
      simp only [hx x (by simp [Op.operands]; exact ⟨i, by simpa using hm⟩)]
    rw [this]
    exact hp
  all_goals simp [evQuiet, evPure] at hv

end
end Go.Dv

/-
  DERIVED, MY OWN. REGIONS THAT DRAW THEIR ORDER (second part): one walk in the text's order serves every order.
-/


set_option autoImplicit false
namespace Go.Dv
open Go Go.RowKit

abbrev QR := AV × Option OB

/-- 'off': where the names of what the frame makes begin. -/
def hide (off : Nat) (t : Tmp) (σ : St) : St := (σ.setOwn (off + t) none).put (some t) .junk

def app1 (off : Nat) (t : Tmp) (r : QR) (σ : St) : St :=
  match r with
  | (v, some ob) => (σ.setOwn (off + t) (some ob)).put (some t) v
  | (v, none) => σ.put (some t) v

def vis1 (off : Nat) (deps : List (List Nat)) (i : Nat) (R : List QR) (t : Tmp) (j : Nat) (σ : St) : St :=
  if (deps.getD i []).contains j then (match R[j]? with | some r => app1 off t r σ | none => hide off t σ)
  else if (deps.getD j []).contains i then σ else hide off t σ

/-- What operation i sees: the answers of those that it surely comes behind. -/
def visGo (off : Nat) (deps : List (List Nat)) (i : Nat) (R : List QR) : Nat → List (Option Tmp) → St → St
  | _, [], σ => σ
  | j, none :: ds, σ => visGo off deps i R (j + 1) ds σ
  | j, some t :: ds, σ => visGo off deps i R (j + 1) ds (vis1 off deps i R t j σ)

def finGo (off : Nat) : List (Option Tmp) → List QR → St → St
  | some t :: ds, r :: rs, σ => finGo off ds rs (app1 off t r σ)
  | none :: ds, _ :: rs, σ => finGo off ds rs σ
  | _, _, σ => σ

def directs (o : Oper) : List Nat := (o.after.toList.filter (Region.binds .any ·)).map (·.on)

def allDiff : List (Option Tmp) → Bool
  | [] => true
  | none :: ds => allDiff ds
  | some t :: ds => !ds.contains (some t) && allDiff ds

/-- What is asked of a region that draws: 'deps' tells behind which others an operation surely comes; from m on the order is the text's. -/
def drawB (ops : List Oper) (m : Nat) (deps : List (List Nat)) : Bool :=
  decide (m ≤ ops.length) && allDiff (ops.map (·.dst)) &&
  (List.range ops.length).all (fun i =>
    let ds := directs (ops.getD i default)
    ds.all (fun j => decide (j < i)) &&
    (deps.getD i []).all (fun j => decide (j < i) && (ds.contains j || ds.any (fun k => (deps.getD k []).contains j))) &&
    (decide (i < m) || (List.range i).all (fun j => (deps.getD i []).contains j)))

def evQ (P : Program) (T : Tbl) (n off : Nat) (ops : Array Oper) (dsts : List (Option Tmp)) (deps : List (List Nat)) (c : Nat) (σ0 : St) : Nat → List Oper → List QR → (List QR → Prop) → Prop
  | _, [], R, K => K R
  | i, o :: rest, R, K =>
    dstB n o = true ∧
    match o.guard with
    | none => ∃ r, evQuiet P T (visGo off deps i R 0 dsts σ0) (off + o.dst.getD 0) (c + i) o.op = some r ∧ (r.2.isSome = true → o.dst.isSome = true) ∧ evQ P T n off ops dsts deps c σ0 (i + 1) rest (R ++ [r]) K
    | some (j, want) => ∃ b, gval (visGo off deps i R 0 dsts σ0) ops j = some b ∧
        (b = some want → ∃ r, evQuiet P T (visGo off deps i R 0 dsts σ0) (off + o.dst.getD 0) (c + i) o.op = some r ∧ (r.2.isSome = true → o.dst.isSome = true) ∧ evQ P T n off ops dsts deps c σ0 (i + 1) rest (R ++ [r]) K) ∧
        (b ≠ some want → evQ P T n off ops dsts deps c σ0 (i + 1) rest (R ++ [(.tup [], none)]) K)

/-- A region that draws its order: m operations without effect, in whatever order; then the others, in the text's. -/
def evDraw (P : Program) (T : Tbl) (E : Big) (n off : Nat) (ops : Array Oper) (m : Nat) (deps : List (List Nat)) (c : Nat) (σ : St) (K : St → Prop) : Prop :=
  drawB ops.toList m deps = true ∧
  evQ P T n off ops (ops.toList.map (·.dst)) deps c σ 0 (ops.toList.take m) [] fun R =>
    evOps P T E n off ops c m (ops.toList.drop m) (finGo off ((ops.toList.map (·.dst)).take m) R σ) K

/-! ### the states, slot by slot -/
def findD : List (Option Tmp) → Tmp → Option Nat
  | [], _ => none
  | d :: ds, t => if d = some t then some 0 else (findD ds t).map (· + 1)

theorem findD_get {t : Tmp} : ∀ {ds : List (Option Tmp)} {j : Nat}, findD ds t = some j → ds[j]? = some (some t)
  | [], j, h => by simp [findD] at h
  | d :: ds, j, h => by
    simp only [findD] at h
    split at h
    · rename_i e; obtain rfl := Option.some.inj h; simp [e]
    · cases hf : findD ds t with
      | none => simp [hf] at h
      | some k => simp [hf] at h; subst h; simpa using findD_get hf

theorem findD_none {t : Tmp} : ∀ {ds : List (Option Tmp)}, findD ds t = none → some t ∉ ds
  | [], _ => by simp
  | d :: ds, h => by
    simp only [findD] at h
    split at h
    · cases h
    · rename_i e
      have := findD_none (ds := ds) (t := t) (by simpa using h)
      simp only [List.mem_cons, not_or]
      exact ⟨fun e' => e e'.symm, this⟩

theorem findD_of {t : Tmp} : ∀ {ds : List (Option Tmp)} {j : Nat}, allDiff ds = true → ds[j]? = some (some t) → findD ds t = some j
  | [], j, _, h => by simp at h
  | d :: ds, 0, _, h => by simp at h; simp [findD, h]
  | d :: ds, j + 1, ha, h => by
    simp at h
    have hm := List.mem_of_getElem? h
    cases d with
    | none => simp [findD, findD_of (by simpa [allDiff] using ha) h]
    | some t' =>
      simp only [allDiff, Bool.and_eq_true] at ha
      have hne : t' ≠ t := by
        rintro rfl
        have := ha.1
        simp at this
        exact this hm
      simp [findD, hne, findD_of ha.2 h]

theorem put_env (σ : St) (t : Tmp) (v : AV) (t' : Tmp) : (σ.put (some t) v).env t' = if t' = t then v else σ.env t' := rfl
theorem put_own (σ : St) (t : Tmp) (v : AV) : (σ.put (some t) v).own = σ.own := rfl
theorem setOwn_env (σ : St) (s : Nat) (ob : Option OB) : (σ.setOwn s ob).env = σ.env := rfl
theorem setOwn_own (σ : St) (s : Nat) (ob : Option OB) (s' : Nat) : (σ.setOwn s ob).own s' = if s' = s then ob else σ.own s' := rfl

theorem app1_env (off : Nat) (t : Tmp) (r : QR) (σ : St) (t' : Tmp) : (app1 off t r σ).env t' = if t' = t then r.1 else σ.env t' := by
  obtain ⟨v, nb⟩ := r; cases nb <;> rfl
theorem app1_own (off : Nat) (t : Tmp) (r : QR) (σ : St) (s : Nat) : (app1 off t r σ).own s = if s = off + t then (match r.2 with | some ob => some ob | none => σ.own s) else σ.own s := by
  obtain ⟨v, nb⟩ := r
  cases nb with
  | none => simp [app1, put_own]
  | some ob => rfl
theorem app1_ctr (off : Nat) (t : Tmp) (r : QR) (σ : St) : (app1 off t r σ).ctr = σ.ctr := by obtain ⟨v, nb⟩ := r; cases nb <;> rfl

/-- One slot's answer, seen by operation i. -/
def seeEnv (deps : List (List Nat)) (i : Nat) (R : List QR) (j : Nat) (old : AV) : AV :=
  if (deps.getD i []).contains j then (match R[j]? with | some r => r.1 | none => .junk)
  else if (deps.getD j []).contains i then old else .junk
def seeOwn (deps : List (List Nat)) (i : Nat) (R : List QR) (j : Nat) (old : Option OB) : Option OB :=
  if (deps.getD i []).contains j then (match R[j]? with | some r => (match r.2 with | some ob => some ob | none => old) | none => none)
  else if (deps.getD j []).contains i then old else none

/-- Which operation's block bears a name. -/
def ownKey (off : Nat) (ds : List (Option Tmp)) (s : Nat) : Option Nat := if off ≤ s then findD ds (s - off) else none

theorem ownKey_nil (off s : Nat) : ownKey off [] s = none := by unfold ownKey; split <;> rfl
theorem ownKey_none (off : Nat) (ds : List (Option Tmp)) (s : Nat) : ownKey off (none :: ds) s = (ownKey off ds s).map (· + 1) := by
  unfold ownKey; split
  · simp [findD]
  · rfl
theorem ownKey_ne {off : Nat} {t : Tmp} {s : Nat} (h : s ≠ off + t) (ds : List (Option Tmp)) : ownKey off (some t :: ds) s = (ownKey off ds s).map (· + 1) := by
  unfold ownKey; split
  · have : ¬ t = s - off := fun e => h (by subst e; show s = off + (s - off); omega)
    simp [findD, this]
  · rfl
theorem ownKey_eq (off : Nat) (t : Tmp) (ds : List (Option Tmp)) : ownKey off (some t :: ds) (off + t) = some 0 := by
  unfold ownKey; rw [if_pos (by omega)]; simp [findD]
theorem ownKey_at (off : Nat) (t : Tmp) (ds : List (Option Tmp)) : ownKey off ds (off + t) = findD ds t := by
  unfold ownKey; rw [if_pos (by omega)]; simp
theorem ownKey_get {off : Nat} {ds : List (Option Tmp)} {s j : Nat} (h : ownKey off ds s = some j) : ∃ t, s = off + t ∧ ds[j]? = some (some t) := by
  unfold ownKey at h; split at h
  · exact ⟨s - off, by omega, findD_get h⟩
  · cases h

theorem vis1_env (off : Nat) (deps : List (List Nat)) (i : Nat) (R : List QR) (t : Tmp) (j : Nat) (σ : St) (t' : Tmp) :
    (vis1 off deps i R t j σ).env t' = if t' = t then seeEnv deps i R j (σ.env t') else σ.env t' := by
  unfold vis1 seeEnv
  split
  · cases R[j]? with
    | none => rfl
    | some r => exact app1_env off t r σ t'
  · split
    · simp
    · rfl
theorem vis1_own (off : Nat) (deps : List (List Nat)) (i : Nat) (R : List QR) (t : Tmp) (j : Nat) (σ : St) (s : Nat) :
    (vis1 off deps i R t j σ).own s = if s = off + t then seeOwn deps i R j (σ.own s) else σ.own s := by
  unfold vis1 seeOwn
  split
  · cases R[j]? with
    | none => rfl
    | some r => exact app1_own off t r σ s
  · split
    · simp
    · rfl

theorem visGo_env (off : Nat) (deps : List (List Nat)) (i : Nat) (R : List QR) : ∀ (ds : List (Option Tmp)) (j : Nat) (σ : St) (t : Tmp), allDiff ds = true →
    (visGo off deps i R j ds σ).env t = (match findD ds t with | some k => seeEnv deps i R (j + k) (σ.env t) | none => σ.env t)
  | [], j, σ, t, _ => rfl
  | none :: ds, j, σ, t, ha => by
    have h1 := visGo_env off deps i R ds (j + 1) σ t (by simpa [allDiff] using ha)
    simp only [visGo, findD, reduceCtorEq, if_false]
    rw [h1]
    cases findD ds t <;> simp [Nat.add_assoc, Nat.add_comm 1]
  | some t0 :: ds, j, σ, t, ha => by
    simp only [allDiff, Bool.and_eq_true] at ha
    have h1 := visGo_env off deps i R ds (j + 1) (vis1 off deps i R t0 j σ) t ha.2
    simp only [visGo, findD]
    rw [h1, vis1_env]
    by_cases he : t0 = t
    · subst he
      have hn : findD ds t0 = none := by
        cases hf : findD ds t0 with
        | none => rfl
        | some k =>
          have := List.mem_of_getElem? (findD_get hf)
          have h3 := ha.1
          simp at h3
          exact absurd this h3
      simp [hn]
    · have he' : ¬ t = t0 := fun e => he e.symm
      simp only [Option.some.injEq, he, if_false, he']
      cases findD ds t <;> simp [Nat.add_assoc, Nat.add_comm 1]

theorem ownKey_hd {off : Nat} {t0 : Tmp} {ds : List (Option Tmp)} (ha : (!ds.contains (some t0)) = true) : ownKey off ds (off + t0) = none := by
  rw [ownKey_at]
  cases hf : findD ds t0 with
  | none => rfl
  | some k =>
    have := List.mem_of_getElem? (findD_get hf)
    simp at ha
    exact absurd this ha

theorem visGo_own (off : Nat) (deps : List (List Nat)) (i : Nat) (R : List QR) : ∀ (ds : List (Option Tmp)) (j : Nat) (σ : St) (s : Nat), allDiff ds = true →
    (visGo off deps i R j ds σ).own s = (match ownKey off ds s with | some k => seeOwn deps i R (j + k) (σ.own s) | none => σ.own s)
  | [], j, σ, s, _ => by rw [ownKey_nil]; rfl
  | none :: ds, j, σ, s, ha => by
    have h1 := visGo_own off deps i R ds (j + 1) σ s (by simpa [allDiff] using ha)
    simp only [visGo, ownKey_none]
    rw [h1]
    cases ownKey off ds s <;> simp [Nat.add_assoc, Nat.add_comm 1]
  | some t0 :: ds, j, σ, s, ha => by
    simp only [allDiff, Bool.and_eq_true] at ha
    have h1 := visGo_own off deps i R ds (j + 1) (vis1 off deps i R t0 j σ) s ha.2
    simp only [visGo]
    rw [h1, vis1_own]
    by_cases he : s = off + t0
    · subst he
      rw [ownKey_hd ha.1, ownKey_eq]
      simp
    · rw [ownKey_ne he, if_neg he]
      cases ownKey off ds s <;> simp [Nat.add_assoc, Nat.add_comm 1]

theorem visGo_ctr (off : Nat) (deps : List (List Nat)) (i : Nat) (R : List QR) : ∀ (ds : List (Option Tmp)) (j : Nat) (σ : St), (visGo off deps i R j ds σ).ctr = σ.ctr
  | [], _, _ => rfl
  | none :: ds, j, σ => visGo_ctr off deps i R ds (j + 1) σ
  | some t :: ds, j, σ => by
    simp only [visGo]
    rw [visGo_ctr]
    unfold vis1
    split
    · cases R[j]? with
      | none => rfl
      | some r => exact app1_ctr off t r σ
    · split <;> rfl

theorem finGo_env (off : Nat) : ∀ (ds : List (Option Tmp)) (R : List QR) (σ : St) (t : Tmp), allDiff ds = true → R.length = ds.length →
    (finGo off ds R σ).env t = (match findD ds t with | some k => (match R[k]? with | some r => r.1 | none => .junk) | none => σ.env t)
  | [], R, σ, t, _, _ => by cases R <;> rfl
  | d :: ds, [], σ, t, _, h => by simp at h
  | none :: ds, r :: rs, σ, t, ha, hl => by
    have h1 := finGo_env off ds rs σ t (by simpa [allDiff] using ha) (by simpa using hl)
    simp only [finGo, findD, reduceCtorEq, if_false]
    rw [h1]
    cases findD ds t <;> simp
  | some t0 :: ds, r :: rs, σ, t, ha, hl => by
    simp only [allDiff, Bool.and_eq_true] at ha
    have h1 := finGo_env off ds rs (app1 off t0 r σ) t ha.2 (by simpa using hl)
    simp only [finGo, findD]
    rw [h1, app1_env]
    by_cases he : t0 = t
    · subst he
      have hn : findD ds t0 = none := by
        cases hf : findD ds t0 with
        | none => rfl
        | some k =>
          have := List.mem_of_getElem? (findD_get hf)
          have h3 := ha.1
          simp at h3
          exact absurd this h3
      simp [hn]
    · have he' : ¬ t = t0 := fun e => he e.symm
      simp only [Option.some.injEq, he, if_false, he']
      cases findD ds t <;> simp

theorem finGo_own (off : Nat) : ∀ (ds : List (Option Tmp)) (R : List QR) (σ : St) (s : Nat), allDiff ds = true → R.length = ds.length →
    (finGo off ds R σ).own s = (match ownKey off ds s with | some k => (match R[k]? with | some r => (match r.2 with | some ob => some ob | none => σ.own s) | none => none) | none => σ.own s)
  | [], R, σ, s, _, _ => by rw [ownKey_nil]; cases R <;> rfl
  | d :: ds, [], σ, s, _, h => by simp at h
  | none :: ds, r :: rs, σ, s, ha, hl => by
    have h1 := finGo_own off ds rs σ s (by simpa [allDiff] using ha) (by simpa using hl)
    simp only [finGo, ownKey_none]
    rw [h1]
    cases ownKey off ds s <;> simp
  | some t0 :: ds, r :: rs, σ, s, ha, hl => by
    simp only [allDiff, Bool.and_eq_true] at ha
    have h1 := finGo_own off ds rs (app1 off t0 r σ) s ha.2 (by simpa using hl)
    simp only [finGo]
    rw [h1, app1_own]
    by_cases he : s = off + t0
    · subst he
      rw [ownKey_hd ha.1, ownKey_eq]
      simp
    · rw [ownKey_ne he, if_neg he]
      cases ownKey off ds s <;> simp

theorem finGo_ctr (off : Nat) : ∀ (ds : List (Option Tmp)) (R : List QR) (σ : St), (finGo off ds R σ).ctr = σ.ctr
  | [], R, σ => by cases R <;> rfl
  | none :: ds, [], σ => rfl
  | some t :: ds, [], σ => rfl
  | none :: ds, r :: rs, σ => finGo_ctr off ds rs σ
  | some t :: ds, r :: rs, σ => (finGo_ctr off ds rs _).trans (app1_ctr off t r σ)

end Go.Dv

/-
  DERIVED, MY OWN. REGIONS THAT DRAW THEIR ORDER (third part): soundness.
-/

set_option autoImplicit false
namespace Go.Dv
open Go Go.RowKit

/-! ### a quiet operation -/
theorem setMuts_none {σ : St} : ∀ (ms : List Bool) (vs : List AV) (wr : Option (Bool × List (List Data))) (ins : List In) (ss : List Nat), argsIn σ ms vs = some (ins, ss, []) → setMuts σ ms vs wr = σ
  | [], _, wr, _, _, _ => by cases wr <;> simp [setMuts]
  | m :: ms, [], wr, _, _, _ => by cases wr <;> simp [setMuts]
  | m :: ms, v :: vs, none, _, _, _ => by simp [setMuts]
  | m :: ms, v :: vs, some (fr, xs), ins, ss, h => by
    simp only [argsIn] at h
    split at h
    · rename_i i s1 m1 is s2 m2 h1 h2
      simp only [Option.some.injEq, Prod.mk.injEq, List.append_eq_nil_iff] at h
      obtain ⟨rfl, rfl, rfl, rfl⟩ := h
      cases m with
      | true => obtain ⟨_, s, hs⟩ := argIn_mut_form h1; cases hs
      | false => simp only [setMuts, Bool.false_eq_true, if_false]; exact setMuts_none ms vs _ _ _ h2
    · cases h

def afterQ (s : Nat) (dst : Option Tmp) (r : QR) (σ : St) : St :=
  match r with
  | (v, some ob) => (σ.setOwn s (some ob)).put dst v
  | (v, none) => σ.put dst v

theorem evCallQ_evCall {T : Tbl} {σ : St} {s g : Nat} {f : FuncId} {vs : List AV} {v : AV} {nb : Option OB} (h : evCallQ T σ s g f vs = some (v, nb)) :
    evCall T σ s g f vs = some (v, match nb with | some ob => σ.setOwn s (some ob) | none => σ) := by
  unfold evCallQ at h
  unfold evCall
  cases hT : T f with
  | none => simp [hT] at h
  | some sp =>
    rw [hT] at h
    simp only at h ⊢
    cases ha : argsIn σ sp.modes vs with
    | none => simp [ha] at h
    | some q =>
      obtain ⟨ins, ss, mm⟩ := q
      rw [ha] at h
      simp only at h ⊢
      cases hr : sp.run ins with
      | none => simp [hr] at h
      | some out =>
        rw [hr] at h
        simp only at h ⊢
        split at h
        · rename_i hc
          obtain ⟨rfl, hsh⟩ := hc
          have e2 : setMuts σ sp.modes vs out.wr = σ := setMuts_none _ _ _ _ _ ha
          split at h
          · rename_i hf
            obtain ⟨rfl, rfl⟩ := (by simpa using h : packAV (resAV s g out.res) = v ∧ none = nb)
            rw [if_pos ⟨by simp, by rw [hf]; simp, by simp, by simp [hsh]⟩]
            simp only [hsh, Bool.false_eq_true, if_false, e2]
            rw [resOwn_none s g _ _ hf]
          · rename_i ty esz fr xs hf
            simp only [Option.some.injEq, Prod.mk.injEq] at h
            obtain ⟨rfl, rfl⟩ := h
            rw [if_pos ⟨by simp, by rw [hf]; simp, by simp, by simp [hsh]⟩]
            simp only [hsh, Bool.false_eq_true, if_false, e2]
            rw [resOwn_one s g _ _ _ _ _ _ hf]
          · cases h
        · cases h

section
variable {P : Program} {T : Tbl} {G : Gh} {V : Nat → Prop} {A0 : Nat → Prop} {M : Nat → Option MR} {w0 w : World} {X : Aux} {n : Nat} {σ : St} {a : Act}

theorem evQuiet_step {o : Oper} {g off : Nat} {r : QR} (hd : dstB n o = true) (he : evQuiet P T σ (off + o.dst.getD 0) g o.op = some r) :
    evStep P T n off σ g o = some (afterQ (off + o.dst.getD 0) o.dst r σ) := by
  obtain ⟨v, nb⟩ := r
  have pure : evPure P σ (off + o.dst.getD 0) g o.op = some (v, nb) → evStep P T n off σ g o = some (afterQ (off + o.dst.getD 0) o.dst (v, nb) σ) := fun h => by
    unfold evStep
    rw [if_pos hd, h]
    cases nb <;> rfl
  have hk : ∀ (b : Bool) (x y : Option (AV × Option OB)), (if b then x else none) = some (v, nb) → x = some (v, nb) := fun b x _ h => by cases b <;> simp_all
  obtain ⟨dst, op, ty, pos, after, guard⟩ := o
  simp only at he pure hd ⊢
  cases op
  case pick c x y =>
    apply pure
    simp only [evQuiet] at he
    simp only [evPure]
    split at he
    · rename_i t fr hc
      rw [hc]
      cases t with
      | true =>
        simp only [if_true, njk] at he ⊢
        by_cases hj : (σ.eval x).isJunk = true
        · rw [if_pos hj] at he; cases he
        · rw [if_neg hj] at he; exact he
      | false =>
        simp only [Bool.false_eq_true, if_false, njk] at he ⊢
        by_cases hj : (σ.eval y).isJunk = true
        · rw [if_pos hj] at he; cases he
        · rw [if_neg hj] at he; exact he
    · cases he
  case call c =>
    obtain ⟨callee, args, argTypes⟩ := c
    cases callee with
    | value f =>
      simp only [evQuiet] at he
      split at he
      · rename_i fid caps hf
        split at he
        · rename_i hc
          subst hc
          unfold evStep
          rw [if_pos hd]
          have hp : evPure P σ (off + dst.getD 0) g (.call ⟨.value f, args, argTypes⟩) = none := by simp [evPure]
          rw [hp]
          simp only [evEff, hf, List.append_nil, evCallQ_evCall he]
          cases nb <;> rfl
        · cases he
      · cases he
    | builtin b => exact pure (hk _ _ none (by simpa only [evQuiet] using he))
    | invoke r m => exact pure (hk _ _ none (by simpa only [evQuiet] using he))
  all_goals exact pure (hk _ _ none (by simpa only [evQuiet] using he))

/-- One operation of a region, by either road. -/
theorem op_sound {E : Big} {off : Nat} {fr0 : List Fr} {ro : Option Nat} {k : Nat} (hT : TblOk' P T) (hE : BigOk P E fr0 A0 M w0) (hX : ∃ fs, X.fr = fs ++ fr0) (h : Rel X G V A0 M w0 n σ a w) {ops : Array Oper} {i : Nat} {o : Oper} (ho : ops[i]? = some o) {g : Nat} (hg : ¬ V g)
    (hc : ∀ g', σ.ctr ≤ g' → ¬ V g') {next : Act → World → Prop} {Q : Exit → Act → World → Prop}
    (hs : ((o.guard = none ∨ ∃ j want, o.guard = some (j, want) ∧ gval σ ops j = some (some want)) ∧ ∃ K, evOne P T E n off σ g o K ∧
        ∀ σ' a' w' G', σ.ctr ≤ σ'.ctr → Rel X G' (fun g' => V g' ∨ g' = g ∨ (σ.ctr ≤ g' ∧ g' < σ'.ctr)) A0 M w0 n σ' a' w' → K σ' → next a' w') ∨
      (∃ j want b, o.guard = some (j, want) ∧ gval σ ops j = some b ∧ b ≠ some want ∧ dstB n o = true ∧ ∀ a', Rel X G V A0 M w0 n (σ.put o.dst (.tup [])) a' w → next a' w)) : wpOpIn (wideR ro) k P ops Q i next a w := by
  unfold wpOpIn
  rw [ho]
  simp only
  rcases hs with ⟨hgd, K, hst, hn⟩ | ⟨j, want, b, hgd, hgv, hbw, hd, hn⟩
  · have hw : Region.wanted o (yielded ops a.tmps) = true := by
      rcases hgd with hgd | ⟨j, want, hgd, hgv⟩
      · simp [Region.wanted, hgd]
      · simp [Region.wanted, hgd, gval_sound h hgv]
    rw [if_pos hw]
    exact evOne_sound hT hE hX h hst hg hc hn
  · have hw : Region.wanted o (yielded ops a.tmps) = false := by
      simp [Region.wanted, hgd, gval_sound h hgv, hbw]
    rw [if_neg (by simp [hw])]
    exact ⟨fun _ _ => trivial, hn _ (h.put VR.undef (dst_ok hd))⟩

end

/-! ### what the walk in the text's order gives -/
def QOk (P : Program) (T : Tbl) (n off : Nat) (ops : Array Oper) (dsts : List (Option Tmp)) (deps : List (List Nat)) (c : Nat) (σ0 : St) (R : List QR) (i : Nat) (o : Oper) : Prop :=
  dstB n o = true ∧ ∃ r, R[i]? = some r ∧
  (((o.guard = none ∨ ∃ j want, o.guard = some (j, want) ∧ gval (visGo off deps i R 0 dsts σ0) ops j = some (some want)) ∧
      evQuiet P T (visGo off deps i R 0 dsts σ0) (off + o.dst.getD 0) (c + i) o.op = some r ∧ (r.2.isSome = true → o.dst.isSome = true)) ∨
   (∃ j want b, o.guard = some (j, want) ∧ gval (visGo off deps i R 0 dsts σ0) ops j = some b ∧ b ≠ some want ∧ r = (.tup [], none)))

theorem St.ext' {σ σ' : St} (h1 : ∀ t, σ.env t = σ'.env t) (h2 : ∀ s, σ.own s = σ'.own s) (h3 : σ.ctr = σ'.ctr) : σ = σ' := by
  obtain ⟨e, o, c⟩ := σ
  obtain ⟨e', o', c'⟩ := σ'
  obtain rfl : e = e' := funext h1
  obtain rfl : o = o' := funext h2
  obtain rfl : c = c' := h3
  rfl

theorem visGo_prefix {off : Nat} {deps : List (List Nat)} {i : Nat} {R R' : List QR} {ds : List (Option Tmp)} {σ : St} (ha : allDiff ds = true)
    (h : ∀ j, j ∈ deps.getD i [] → R[j]? = R'[j]?) : visGo off deps i R 0 ds σ = visGo off deps i R' 0 ds σ := by
  refine St.ext' (fun t => ?_) (fun t => ?_) (by rw [visGo_ctr, visGo_ctr])
  · rw [visGo_env off deps i R ds 0 σ t ha, visGo_env off deps i R' ds 0 σ t ha]
    cases findD ds t with
    | none => rfl
    | some k =>
      simp only [seeEnv, Nat.zero_add]
      by_cases hk : (deps.getD i []).contains k = true
      · rw [if_pos hk, if_pos hk, h k (by simpa using hk)]
      · rw [if_neg hk, if_neg hk]
  · rw [visGo_own off deps i R ds 0 σ t ha, visGo_own off deps i R' ds 0 σ t ha]
    cases ownKey off ds t with
    | none => rfl
    | some k =>
      simp only [seeOwn, Nat.zero_add]
      by_cases hk : (deps.getD i []).contains k = true
      · rw [if_pos hk, if_pos hk, h k (by simpa using hk)]
      · rw [if_neg hk, if_neg hk]

theorem evQ_all {P : Program} {T : Tbl} {n off : Nat} {ops : Array Oper} {dsts : List (Option Tmp)} {deps : List (List Nat)} {c : Nat} {σ0 : St} {K : List QR → Prop} (ha : allDiff dsts = true) :
    ∀ (rest : List Oper) (i : Nat) (R : List QR), R.length = i → (∀ j, i ≤ j → j < i + rest.length → ∀ d ∈ deps.getD j [], d < j) → evQ P T n off ops dsts deps c σ0 i rest R K →
      ∃ R', R'.length = i + rest.length ∧ (∀ k, k < i → R'[k]? = R[k]?) ∧ (∀ k o, rest[k]? = some o → QOk P T n off ops dsts deps c σ0 R' (i + k) o) ∧ K R'
  | [], i, R, hl, _, h => ⟨R, by simpa using hl, fun _ _ => rfl, fun k o hk => by simp at hk, h⟩
  | o :: rest, i, R, hl, hdep, h => by
    simp only [evQ] at h
    obtain ⟨hd, h⟩ := h
    -- one answer more
    have go : ∀ r : QR, evQ P T n off ops dsts deps c σ0 (i + 1) rest (R ++ [r]) K →
        (∀ R', (∀ k, k < i → R'[k]? = R[k]?) → R'[i]? = some r → QOk P T n off ops dsts deps c σ0 R' i o) →
        ∃ R', R'.length = i + (o :: rest).length ∧ (∀ k, k < i → R'[k]? = R[k]?) ∧ (∀ k o', (o :: rest)[k]? = some o' → QOk P T n off ops dsts deps c σ0 R' (i + k) o') ∧ K R' := by
      intro r hr hq
      obtain ⟨R', h1, h2, h3, h4⟩ := evQ_all ha rest (i + 1) (R ++ [r]) (by simp [hl]) (fun j hj1 hj2 => hdep j (by omega) (by simp only [List.length_cons]; omega)) hr
      have hpre : ∀ k, k < i → R'[k]? = R[k]? := fun k hk => by
        rw [h2 k (by omega), List.getElem?_append_left (by omega)]
      have hi : R'[i]? = some r := by rw [h2 i (by omega), List.getElem?_append_right (by omega)]; simp [hl]
      refine ⟨R', by simp only [List.length_cons]; omega, hpre, fun k o' hk => ?_, h4⟩
      cases k with
      | zero => simp at hk; subst hk; exact hq R' hpre hi
      | succ k =>
        have := h3 k o' (by simpa using hk)
        rwa [show i + 1 + k = i + (k + 1) from by omega] at this
    have vis : ∀ R', (∀ k, k < i → R'[k]? = R[k]?) → visGo off deps i R' 0 dsts σ0 = visGo off deps i R 0 dsts σ0 := fun R' hp =>
      visGo_prefix ha fun j hj => hp j (hdep i (Nat.le_refl _) (by simp) j hj)
    cases hgd : o.guard with
    | none =>
      rw [hgd] at h
      obtain ⟨r, hr, hs, hk⟩ := h
      exact go r hk fun R' hp hi => ⟨hd, r, hi, .inl ⟨.inl hgd, by rw [vis R' hp]; exact hr, hs⟩⟩
    | some p =>
      obtain ⟨j, want⟩ := p
      rw [hgd] at h
      obtain ⟨b, hb, h1, h2⟩ := h
      by_cases hbw : b = some want
      · obtain ⟨r, hr, hs, hk⟩ := h1 hbw
        exact go r hk fun R' hp hi => ⟨hd, r, hi, .inl ⟨.inr ⟨j, want, hgd, by rw [vis R' hp, hb, hbw]⟩, by rw [vis R' hp]; exact hr, hs⟩⟩
      · exact go _ (h2 hbw) fun R' hp hi => ⟨hd, _, hi, .inr ⟨j, want, b, hgd, by rw [vis R' hp, hb], hbw, rfl⟩⟩

end Go.Dv

/-
  DERIVED, MY OWN. REGIONS THAT DRAW THEIR ORDER (fourth part): every order is served.
-/

set_option autoImplicit false
namespace Go.Dv
open Go Go.RowKit

/-- The state behind those operations that are listed. -/
structure AtL (off : Nat) (σ0 : St) (dsts : List (Option Tmp)) (R : List QR) (ls : Array Bool) (σ : St) : Prop where
  env : ∀ t, σ.env t = match findD dsts t with | some k => (if ls.getD k false = true then (match R[k]? with | some r => r.1 | none => .junk) else σ0.env t) | none => σ0.env t
  own : ∀ s, σ.own s = match ownKey off dsts s with | some k => (if ls.getD k false = true then (match R[k]? with | some r => (match r.2 with | some ob => some ob | none => σ0.own s) | none => none) else σ0.own s) | none => σ0.own s
  ctr : σ.ctr = σ0.ctr

/-- Those that are listed have all before them listed. -/
def Cl (deps : List (List Nat)) (ls : Array Bool) : Prop := ∀ k, ls.getD k false = true → ∀ d ∈ deps.getD k [], ls.getD d false = true

theorem getD_set {ls : Array Bool} {i : Nat} (hi : i < ls.size) (k : Nat) : (ls.setIfInBounds i true).getD k false = (ls.getD k false || decide (k = i)) := by
  rw [Array.getD_eq_getD_getElem?, Array.getD_eq_getD_getElem?]
  by_cases h : k = i
  · subst h; simp [hi]
  · rw [Array.getElem?_setIfInBounds_ne (Ne.symm h)]; simp [h]

theorem visGo_le {off : Nat} {σ0 σ : St} {dsts : List (Option Tmp)} {R : List QR} {ls : Array Bool} {deps : List (List Nat)} {i : Nat} (ha : allDiff dsts = true) (h : AtL off σ0 dsts R ls σ) (hcl : Cl deps ls)
    (hd : ∀ d ∈ deps.getD i [], ls.getD d false = true) (hi : ls.getD i false = false) : LE (visGo off deps i R 0 dsts σ0) σ := by
  constructor
  · intro t
    rw [h.env t, visGo_env off deps i R dsts 0 σ0 t ha]
    cases hf : findD dsts t with
    | none => exact .inr rfl
    | some k =>
      simp only [seeEnv, Nat.zero_add]
      by_cases hk : (deps.getD i []).contains k = true
      · rw [if_pos hk, hd k (by simpa using hk)]; exact .inr rfl
      · rw [if_neg hk]
        by_cases hk2 : (deps.getD k []).contains i = true
        · rw [if_pos hk2]
          have : ls.getD k false = false := by
            cases hl : ls.getD k false with
            | false => rfl
            | true => have := hcl k hl i (by simpa using hk2); rw [hi] at this; cases this
          rw [this]; exact .inr rfl
        · rw [if_neg hk2]; exact .inl rfl
  · intro t ob
    rw [h.own t, visGo_own off deps i R dsts 0 σ0 t ha]
    cases hf : ownKey off dsts t with
    | none => exact id
    | some k =>
      simp only [seeOwn, Nat.zero_add]
      by_cases hk : (deps.getD i []).contains k = true
      · rw [if_pos hk, hd k (by simpa using hk)]; exact id
      · rw [if_neg hk]
        by_cases hk2 : (deps.getD k []).contains i = true
        · rw [if_pos hk2]
          have : ls.getD k false = false := by
            cases hl : ls.getD k false with
            | false => rfl
            | true => have := hcl k hl i (by simpa using hk2); rw [hi] at this; cases this
          rw [this]; exact id
        · rw [if_neg hk2]; intro e; cases e

theorem gval_le {σ σ' : St} (h : LE σ σ') {ops : Array Oper} {j : Nat} {b : Option Bool} (hg : gval σ ops j = some b) : gval σ' ops j = some b := by
  unfold gval at hg ⊢
  cases ht : (ops[j]?).bind (·.dst) with
  | none => simp [ht] at hg
  | some t =>
    simp only [ht] at hg ⊢
    rcases h.env t with e | e
    · rw [e] at hg; cases hg
    · rw [e]; exact hg

theorem AtL.step {off : Nat} {σ0 σ : St} {dsts : List (Option Tmp)} {R : List QR} {ls : Array Bool} {i : Nat} {d : Option Tmp} {r : QR} (ha : allDiff dsts = true) (h : AtL off σ0 dsts R ls σ)
    (hi : ls.getD i false = false) (his : i < ls.size) (hr : R[i]? = some r) (hdi : dsts[i]? = some d) (hs : r.2.isSome = true → d.isSome = true) : AtL off σ0 dsts R (ls.setIfInBounds i true) (afterQ (off + d.getD 0) d r σ) := by
  cases d with
  | none =>
    have hne : ∀ t k, findD dsts t = some k → k ≠ i := by
      rintro t k hf rfl
      have := findD_get hf
      rw [hdi] at this; cases this
    have hneo : ∀ t k, ownKey off dsts t = some k → k ≠ i := by
      rintro t k hf rfl
      obtain ⟨t', _, this⟩ := ownKey_get hf
      rw [hdi] at this; cases this
    have hr2 : r.2 = none := by
      cases h2 : r.2 with
      | none => rfl
      | some ob => have := hs (by rw [h2]; rfl); cases this
    have hσ : ∀ x, afterQ x none r σ = σ := by
      intro x
      obtain ⟨v, nb⟩ := r
      simp only at hr2
      subst hr2
      rfl
    refine ⟨fun t => ?_, fun t => ?_, by rw [hσ]; exact h.ctr⟩
    · rw [hσ, h.env t]
      cases hf : findD dsts t with
      | none => rfl
      | some k => simp only [getD_set his, hne t k hf, decide_false, Bool.or_false]
    · rw [hσ, h.own t]
      cases hf : ownKey off dsts t with
      | none => rfl
      | some k => simp only [getD_set his, hneo t k hf, decide_false, Bool.or_false]
  | some t0 =>
    have hf0 : findD dsts t0 = some i := findD_of ha hdi
    have hfo : ownKey off dsts (off + t0) = some i := by rw [ownKey_at]; exact hf0
    have hne : ∀ t k, t ≠ t0 → findD dsts t = some k → k ≠ i := by
      rintro t k ht hf rfl
      have := findD_get hf
      rw [hdi] at this
      exact ht (Option.some.inj (Option.some.inj this)).symm
    have hneo : ∀ t k, t ≠ off + t0 → ownKey off dsts t = some k → k ≠ i := by
      rintro t k ht hf rfl
      obtain ⟨t', e, this⟩ := ownKey_get hf
      rw [hdi] at this
      exact ht (by rw [e, Option.some.inj (Option.some.inj this)])
    have henv : ∀ t, (afterQ (off + t0) (some t0) r σ).env t = if t = t0 then r.1 else σ.env t := by
      intro t; obtain ⟨v, nb⟩ := r; cases nb <;> rfl
    have hown : ∀ s, (afterQ (off + t0) (some t0) r σ).own s = if s = off + t0 then (match r.2 with | some ob => some ob | none => σ.own s) else σ.own s := by
      intro t
      obtain ⟨v, nb⟩ := r
      cases nb with
      | none => simp [afterQ, put_own]
      | some ob => rfl
    have hctr : (afterQ (off + t0) (some t0) r σ).ctr = σ.ctr := by obtain ⟨v, nb⟩ := r; cases nb <;> rfl
    refine ⟨fun t => ?_, fun t => ?_, hctr.trans h.ctr⟩
    · simp only [Option.getD_some]
      rw [henv]
      by_cases ht : t = t0
      · subst ht
        simp [hf0, getD_set his, hr]
      · rw [if_neg ht, h.env t]
        cases hf : findD dsts t with
        | none => rfl
        | some k => simp only [getD_set his, hne t k ht hf, decide_false, Bool.or_false]
    · simp only [Option.getD_some]
      rw [hown]
      by_cases ht : t = off + t0
      · subst ht
        rw [if_pos rfl, h.own (off + t0)]
        simp [hfo, getD_set his, hr, hi]
      · rw [if_neg ht, h.own t]
        cases hf : ownKey off dsts t with
        | none => rfl
        | some k => simp only [getD_set his, hneo t k ht hf, decide_false, Bool.or_false]

theorem AtL.fin {off : Nat} {σ0 σ : St} {dsts : List (Option Tmp)} {R : List QR} {ls : Array Bool} {m : Nat} (ha : allDiff dsts = true) (h : AtL off σ0 dsts R ls σ) (hm : m ≤ dsts.length) (hR : R.length = m)
    (h1 : ∀ j, j < m → ls.getD j false = true) (h2 : ∀ j, m ≤ j → ls.getD j false = false) : σ = finGo off (dsts.take m) R σ0 := by
  have hat : ∀ (ds : List (Option Tmp)) (m : Nat), allDiff ds = true → allDiff (ds.take m) = true := by
    intro ds
    induction ds with
    | nil => intro m _; simp [allDiff]
    | cons d ds ih =>
      intro m hd
      cases m with
      | zero => simp [allDiff]
      | succ m =>
        cases d with
        | none => simpa [allDiff] using ih m (by simpa [allDiff] using hd)
        | some t =>
          simp only [allDiff, Bool.and_eq_true] at hd
          simp only [List.take_succ_cons, allDiff, Bool.and_eq_true]
          refine ⟨?_, ih m hd.2⟩
          have := hd.1
          simp only [Bool.not_eq_true', List.contains_eq_mem, decide_eq_false_iff_not] at this ⊢
          exact fun hx => this (List.mem_of_mem_take hx)
  have ha' := hat dsts m ha
  have hl : R.length = (dsts.take m).length := by rw [List.length_take]; omega
  have hfd : ∀ t, (∀ k, findD (dsts.take m) t = some k → findD dsts t = some k ∧ k < m) ∧ (findD (dsts.take m) t = none → ∀ k, findD dsts t = some k → m ≤ k) := by
    intro t
    refine ⟨fun k hk => ?_, fun hn k hk => ?_⟩
    · have hg := findD_get hk
      have hkm : k < m := by
        have := (List.getElem?_eq_some_iff.1 hg).1
        rw [List.length_take] at this; omega
      rw [List.getElem?_take_of_lt hkm] at hg
      exact ⟨findD_of ha hg, hkm⟩
    · by_cases hkm : k < m
      · exact absurd (List.mem_of_getElem? (by rw [List.getElem?_take_of_lt hkm]; exact findD_get hk)) (findD_none hn)
      · omega
  refine St.ext' (fun t => ?_) (fun t => ?_) ?_
  · rw [h.env t, finGo_env off (dsts.take m) R σ0 t ha' hl]
    cases hf : findD (dsts.take m) t with
    | some k =>
      obtain ⟨e, hk⟩ := (hfd t).1 k hf
      rw [e]
      simp only [h1 k hk, if_true]
      try rfl
    | none =>
      cases hf2 : findD dsts t with
      | none => rfl
      | some k => simp only [h2 k ((hfd t).2 hf k hf2), Bool.false_eq_true, if_false]
  · have hfo : (∀ k, ownKey off (dsts.take m) t = some k → ownKey off dsts t = some k ∧ k < m) ∧ (ownKey off (dsts.take m) t = none → ∀ k, ownKey off dsts t = some k → m ≤ k) := by
      unfold ownKey
      split
      · exact hfd (t - off)
      · exact ⟨fun k h => (by cases h), fun _ k h => (by cases h)⟩
    rw [h.own t, finGo_own off (dsts.take m) R σ0 t ha' hl]
    cases hf : ownKey off (dsts.take m) t with
    | some k =>
      obtain ⟨e, hk⟩ := hfo.1 k hf
      rw [e]
      simp only [h1 k hk, if_true]
      try rfl
    | none =>
      cases hf2 : ownKey off dsts t with
      | none => rfl
      | some k => simp only [h2 k (hfo.2 hf k hf2), Bool.false_eq_true, if_false]
  · rw [h.ctr, finGo_ctr]

end Go.Dv

/-
  DERIVED, MY OWN. REGIONS THAT DRAW THEIR ORDER (fifth part): the theorem.
-/

set_option autoImplicit false
namespace Go.Dv
open Go Go.RowKit

def unl (ls : Array Bool) (n : Nat) : Nat := (List.range n).countP fun j => !ls.getD j false

theorem countP_lt {i : Nat} {p q : Nat → Bool} (hpq : ∀ j, q j = true → p j = true) (hp : p i = true) (hq : q i = false) : ∀ (l : List Nat), i ∈ l → l.countP q < l.countP p
  | [], h => by simp at h
  | x :: l, h => by
    have hle : l.countP q ≤ l.countP p := List.countP_mono_left (fun j _ => hpq j)
    rcases List.mem_cons.1 h with rfl | h
    · simp [hp, hq]; omega
    · have := countP_lt hpq hp hq l h
      have hx : (if q x = true then 1 else 0) ≤ (if p x = true then 1 else 0 : Nat) := by
        by_cases hqx : q x = true
        · simp [hqx, hpq x hqx]
        · simp [hqx]
      simp only [List.countP_cons]
      omega

theorem unl_set {ls : Array Bool} {i n : Nat} (hi : i < ls.size) (hin : i < n) (hu : ls.getD i false = false) : unl (ls.setIfInBounds i true) n < unl ls n := by
  refine countP_lt (i := i) (fun j => ?_) (by simp only [hu]; rfl) (by rw [getD_set hi]; simp) _ (List.mem_range.2 hin)
  rw [getD_set hi]
  simp only [Bool.not_or, Bool.and_eq_true]
  exact fun h => h.1

theorem unl_zero {ls : Array Bool} {n : Nat} (h : unl ls n = 0) : ∀ j, j < n → ls.getD j false = true := by
  intro j hj
  unfold unl at h
  rw [List.countP_eq_zero] at h
  have := h j (List.mem_range.2 hj)
  simpa using this

section
variable {P : Program} {T : Tbl} {E : Big} {fr0 : List Fr} {ro : Option Nat} {kk off : Nat} {A0 : Nat → Prop} {M : Nat → Option MR} {w0 : World} {X : Aux} {n : Nat}

/-- What 'drawB' says. -/
theorem drawB_spec {l : List Oper} {m : Nat} {deps : List (List Nat)} (h : drawB l m deps = true) : m ≤ l.length ∧ allDiff (l.map (·.dst)) = true ∧
    ∀ i, i < l.length → (∀ j ∈ directs (l.getD i default), j < i) ∧
      (∀ j ∈ deps.getD i [], j < i ∧ (j ∈ directs (l.getD i default) ∨ ∃ k ∈ directs (l.getD i default), j ∈ deps.getD k [])) ∧ (m ≤ i → ∀ j, j < i → j ∈ deps.getD i []) := by
  unfold drawB at h
  simp only [Bool.and_eq_true, decide_eq_true_eq, List.all_eq_true, List.mem_range, Bool.or_eq_true, List.contains_eq_mem, List.any_eq_true] at h
  obtain ⟨⟨h1, h2⟩, h3⟩ := h
  exact ⟨h1, h2, fun i hi => ⟨(h3 i hi).1.1, (h3 i hi).1.2, fun hm => (h3 i hi).2.resolve_left (by omega)⟩⟩

theorem getD_false_true {ls : Array Bool} {j : Nat} (h : ls.getD j true = false) : ls.getD j false = false ∧ j < ls.size := by
  rw [Array.getD_eq_getD_getElem?] at h ⊢
  revert h
  cases hx : ls[j]? with
  | none => intro h; simp at h
  | some b => intro h; exact ⟨h, (Array.getElem?_eq_some_iff.1 hx).1⟩

/-- The generations of the operations that are listed, and those that whole calls took. -/
def Vd (V0 : Nat → Prop) (c0 c : Nat) (ls : Array Bool) (lo top g : Nat) : Prop := BV V0 c0 c g ∨ (∃ j, ls.getD j false = true ∧ g = c + j) ∨ (lo ≤ g ∧ g < top)

theorem draw_sound (hT : TblOk' P T) (hE : BigOk P E fr0 A0 M w0) (hX : ∃ fs, X.fr = fs ++ fr0) {ops : Array Oper} {V0 : Nat → Prop} {c0 : Nat} (hV0 : ∀ g, V0 g → g < c0) {m c : Nat} (h0c : c0 ≤ c) {deps : List (List Nat)} {σ0 : St} {R : List QR} {K : St → Prop} {Q : Exit → Act → World → Prop}
    (hdr : drawB ops.toList m deps = true) (hR : R.length = m) (hc0 : c + ops.size ≤ σ0.ctr)
    (hq : ∀ i o, i < m → ops[i]? = some o → QOk P T n off ops (ops.toList.map (·.dst)) deps c σ0 R i o)
    (hk : evOps P T E n off ops c m (ops.toList.drop m) (finGo off ((ops.toList.map (·.dst)).take m) R σ0) K)
    (hQ : ∀ σ a w G, σ0.ctr ≤ σ.ctr → Rel X G (BV V0 c0 σ.ctr) A0 M w0 n σ a w → K σ → Q .normal a w) :
    ∀ (fuel : Nat) (ls : Array Bool) (σ : St) (a : Act) (w : World) (G : Gh), ls.size = ops.size → Cl deps ls → unl ls ops.size ≤ fuel → σ0.ctr ≤ σ.ctr →
      Rel X G (Vd V0 c0 c ls σ0.ctr σ.ctr) A0 M w0 n σ a w →
      ((∀ j, m ≤ j → ls.getD j false = false) ∧ AtL off σ0 (ops.toList.map (·.dst)) R ls σ ∨
       ∃ i, m ≤ i ∧ i ≤ ops.size ∧ (∀ j, ls.getD j false = decide (j < i)) ∧ evOps P T E n off ops c i (ops.toList.drop i) σ K) →
      wpAnyIn (wideR ro) kk P .any ops Q fuel ls a w := by
  obtain ⟨hm, hdiff, hspec⟩ := drawB_spec hdr
  have hlen : ops.toList.length = ops.size := by simp
  have hgetD : ∀ i o, ops[i]? = some o → ops.toList.getD i default = o := fun i o h => by
    rw [List.getD_eq_getElem?_getD, Array.getElem?_toList, h]; rfl
  intro fuel
  induction fuel with
  | zero =>
    intro ls σ a w G hsz hcl hu htop hrel hinv
    have hall := unl_zero (Nat.le_zero.1 hu)
    refine ⟨?_, ?_⟩
    · apply List.eq_nil_iff_forall_not_mem.2
      intro j hj
      obtain ⟨h1, o, ho, _⟩ := mem_ready.1 hj
      obtain ⟨h1, h2⟩ := getD_false_true h1
      rw [hall j (by omega)] at h1; cases h1
    · have hB : ∃ i, m ≤ i ∧ i ≤ ops.size ∧ (∀ j, ls.getD j false = decide (j < i)) ∧ evOps P T E n off ops c i (ops.toList.drop i) σ K := by
        rcases hinv with ⟨h1, h2⟩ | h
        · refine ⟨m, Nat.le_refl _, by omega, fun j => ?_, ?_⟩
          · by_cases hj : j < m
            · rw [hall j (by omega)]; simp [hj]
            · rw [h1 j (by omega)]; simp [hj]
          · rw [h2.fin hdiff (by simpa using hm) hR (fun j hj => hall j (by omega)) h1]; exact hk
        · exact h
      obtain ⟨i, _, hi, hl, hev⟩ := hB
      have hie : i = ops.size := by
        by_cases h : i < ops.size
        · have := hall i h; rw [hl i] at this; simp at this
        · omega
      subst hie
      rw [List.drop_of_length_le (by omega)] at hev
      refine hQ σ a w G htop (hrel.mono fun g hg => ?_) hev
      rcases hg with (h | h) | ⟨j, hj, rfl⟩ | h
      · exact .inl h
      · exact .inr ⟨h.1, by omega⟩
      · rw [hl j] at hj; simp at hj; exact .inr ⟨by omega, by omega⟩
      · exact .inr ⟨by omega, h.2⟩
  | succ fuel ih =>
    intro ls σ a w G hsz hcl hu htop hrel hinv
    -- all those ahead are listed: then the order is the text's
    have toB : (∀ j, j < m → ls.getD j false = true) → ∃ i, m ≤ i ∧ i ≤ ops.size ∧ (∀ j, ls.getD j false = decide (j < i)) ∧ evOps P T E n off ops c i (ops.toList.drop i) σ K := by
      intro hall
      rcases hinv with ⟨h1, h2⟩ | h
      · refine ⟨m, Nat.le_refl _, by omega, fun j => ?_, ?_⟩
        · by_cases hj : j < m
          · rw [hall j hj]; simp [hj]
          · rw [h1 j (by omega)]; simp [hj]
        · rw [h2.fin hdiff (by simpa using hm) hR hall h1]; exact hk
      · exact h
    constructor
    · intro hnil
      have hall : ∀ j, j < ops.size → ls.getD j false = true := by
        intro j
        induction j using Nat.strongRecOn with
        | _ j ihj =>
          intro hj
          cases hl : ls.getD j false with
          | true => rfl
          | false =>
            exfalso
            have ho : ops[j]? = some ops[j] := Array.getElem?_eq_getElem hj
            have : j ∈ Region.ready .any ops ls := mem_ready.2 ⟨by
              rw [Array.getD_eq_getD_getElem?] at hl ⊢
              rw [Array.getElem?_eq_getElem (by omega)] at hl ⊢
              exact hl, ops[j], ho, fun e he hb => ihj e.on (by
                refine (hspec j (by omega)).1 e.on ?_
                rw [hgetD j _ ho]
                exact List.mem_map.2 ⟨e, List.mem_filter.2 ⟨by simpa using he, hb⟩, rfl⟩) (by
                have := (hspec j (by omega)).1 e.on (by
                  rw [hgetD j _ ho]
                  exact List.mem_map.2 ⟨e, List.mem_filter.2 ⟨by simpa using he, hb⟩, rfl⟩)
                omega)⟩
            rw [hnil] at this; simp at this
      obtain ⟨i, _, hi, hl, hev⟩ := toB fun j hj => hall j (by omega)
      have hie : i = ops.size := by
        by_cases h : i < ops.size
        · have := hall i h; rw [hl i] at this; simp at this
        · omega
      subst hie
      rw [List.drop_of_length_le (by omega)] at hev
      refine hQ σ a w G htop (hrel.mono fun g hg => ?_) hev
      rcases hg with (h | h) | ⟨j, hj, rfl⟩ | h
      · exact .inl h
      · exact .inr ⟨h.1, by omega⟩
      · rw [hl j] at hj; simp at hj; exact .inr ⟨by omega, by omega⟩
      · exact .inr ⟨by omega, h.2⟩
    · intro i hi
      obtain ⟨h1, o, ho, hedge⟩ := mem_ready.1 hi
      obtain ⟨hun, his⟩ := getD_false_true h1
      have hil : i < ops.toList.length := by omega
      have hdirs : ∀ d ∈ directs o, ls.getD d false = true := by
        intro d hd
        obtain ⟨e, he, rfl⟩ := List.mem_map.1 hd
        obtain ⟨he1, he2⟩ := List.mem_filter.1 he
        exact hedge e (by simpa using he1) he2
      have hdep : ∀ d ∈ deps.getD i [], ls.getD d false = true := by
        intro d hd
        have := ((hspec i hil).2.1 d hd).2
        rw [hgetD i o ho] at this
        rcases this with h | ⟨k, hk, hkd⟩
        · exact hdirs d h
        · exact hcl k (hdirs k hk) d hkd
      have hcl' : Cl deps (ls.setIfInBounds i true) := by
        intro k hk d hd
        rw [getD_set his] at hk ⊢
        simp only [Bool.or_eq_true, decide_eq_true_eq] at hk ⊢
        rcases hk with hk | rfl
        · exact .inl (hcl k hk d hd)
        · exact .inl (hdep d hd)
      have hu' : unl (ls.setIfInBounds i true) ops.size ≤ fuel := by
        have := unl_set (n := ops.size) his (by omega) hun
        omega
      have hgc : ∀ g', σ.ctr ≤ g' → ¬ Vd V0 c0 c ls σ0.ctr σ.ctr g' := by
        rintro g' hg' ((h | h) | ⟨j, hj, h⟩ | h)
        · have := hV0 g' h; omega
        · omega
        · have : j < ls.size := by
            apply Nat.lt_of_not_le
            intro hjs
            rw [Array.getD_eq_getD_getElem?, Array.getElem?_eq_none hjs] at hj
            cases hj
          omega
        · omega
      have hg : ¬ Vd V0 c0 c ls σ0.ctr σ.ctr (c + i) := by
        rintro ((h | h) | ⟨j, hj, h⟩ | h)
        · have := hV0 _ h; omega
        · omega
        · rw [show j = i from by omega, hun] at hj; cases hj
        · omega
      have hVV : ∀ top g, σ.ctr ≤ top → (Vd V0 c0 c ls σ0.ctr σ.ctr g ∨ g = c + i ∨ (σ.ctr ≤ g ∧ g < top)) → Vd V0 c0 c (ls.setIfInBounds i true) σ0.ctr top g := by
        rintro top g ht ((h | ⟨j, hj, h⟩ | h) | h | h)
        · exact .inl h
        · exact .inr (.inl ⟨j, by rw [getD_set his, hj]; rfl, h⟩)
        · exact .inr (.inr ⟨h.1, by omega⟩)
        · exact .inr (.inl ⟨i, by rw [getD_set his]; simp, h⟩)
        · exact .inr (.inr ⟨by omega, h.2⟩)
      have hnext := ih (ls.setIfInBounds i true)
      by_cases hphase : ∀ j, j < m → ls.getD j false = true
      · -- the text's order
        obtain ⟨i', hmi, hi', hl, hev⟩ := toB hphase
        have hii : i = i' := by
          have h1 : ¬ i < i' := by intro h; have := hl i; rw [hun] at this; simp [h] at this
          have h2 : ¬ i' < i := by
            intro h
            have := hdep i' ((hspec i hil).2.2 (by omega) i' h)
            rw [hl i'] at this; simp at this
          omega
        subst hii
        have hdrop : ops.toList.drop i = o :: ops.toList.drop (i + 1) := by
          rw [List.drop_eq_getElem_cons hil]
          congr 1
          have := Array.getElem?_eq_some_iff.1 ho
          simpa using this.2
        rw [hdrop] at hev
        simp only [evOps] at hev
        have hl' : ∀ j, (ls.setIfInBounds i true).getD j false = decide (j < i + 1) := by
          intro j
          rw [getD_set his, hl j]
          by_cases hj : j < i
          · simp [hj]; omega
          · by_cases hj2 : j = i
            · simp [hj2]
            · simp [hj, hj2]; omega
        have fin : ∀ σ' a' w' G', σ.ctr ≤ σ'.ctr → Rel X G' (fun g' => Vd V0 c0 c ls σ0.ctr σ.ctr g' ∨ g' = c + i ∨ (σ.ctr ≤ g' ∧ g' < σ'.ctr)) A0 M w0 n σ' a' w' →
            evOps P T E n off ops c (i + 1) (ops.toList.drop (i + 1)) σ' K → wpAnyIn (wideR ro) kk P .any ops Q fuel (ls.setIfInBounds i true) a' w' := fun σ' a' w' G' hct hr' he' =>
          hnext σ' a' w' G' (by simpa using hsz) hcl' hu' (by omega) (hr'.mono fun g hg => hVV _ g hct hg) (.inr ⟨i + 1, by omega, by omega, hl', he'⟩)
        refine op_sound (off := off) hT hE hX hrel ho hg hgc ?_
        cases hgd : o.guard with
        | none =>
          rw [hgd] at hev
          exact .inl ⟨.inl rfl, _, hev, fun σ' a' w' G' hct hr' he => fin σ' a' w' G' hct hr' he⟩
        | some p =>
          obtain ⟨j, want⟩ := p
          rw [hgd] at hev
          obtain ⟨b, hb, e1, e2⟩ := hev
          by_cases hbw : b = some want
          · exact .inl ⟨.inr ⟨j, want, rfl, hbw ▸ hb⟩, _, e1 hbw, fun σ' a' w' G' hct hr' he => fin σ' a' w' G' hct hr' he⟩
          · obtain ⟨hd, he⟩ := e2 hbw
            exact .inr ⟨j, want, b, rfl, hb, hbw, hd, fun a' hr' => fin _ a' w G (by rw [put_ctr0]; exact Nat.le_refl _) (hr'.mono fun g hg => .inl hg) he⟩
      · -- whatever order
        rcases hinv with ⟨hA, hat⟩ | ⟨i', hmi, _, hl, _⟩
        · have him : i < m := by
            apply Nat.lt_of_not_le
            intro hmi
            exact hphase fun j hj => hdep j ((hspec i hil).2.2 hmi j (by omega))
          obtain ⟨hd, r, hr, hcase⟩ := hq i o him ho
          have hdi : (ops.toList.map (·.dst))[i]? = some o.dst := by
            rw [List.getElem?_map, Array.getElem?_toList, ho]; rfl
          have hle := visGo_le (R := R) hdiff hat hcl hdep hun
          have hac : (afterQ (off + o.dst.getD 0) o.dst r σ).ctr = σ.ctr := by
            obtain ⟨v, nb⟩ := r
            cases nb <;> exact put_ctr0 _ _ _
          have fin : ∀ a' w' G', (r.2.isSome = true → o.dst.isSome = true) → Rel X G' (fun g' => Vd V0 c0 c ls σ0.ctr σ.ctr g' ∨ g' = c + i ∨ (σ.ctr ≤ g' ∧ g' < σ.ctr)) A0 M w0 n (afterQ (off + o.dst.getD 0) o.dst r σ) a' w' →
              wpAnyIn (wideR ro) kk P .any ops Q fuel (ls.setIfInBounds i true) a' w' := fun a' w' G' hs hr' =>
            hnext _ a' w' G' (by simpa using hsz) hcl' hu' (by rw [hac]; exact htop) (hr'.mono fun g hg => by rw [hac]; exact hVV _ g (Nat.le_refl _) hg) (.inl ⟨fun j hj => by rw [getD_set his, hA j hj]; simp; omega, hat.step hdiff hun his hr hdi hs⟩)
          refine op_sound (off := off) (E := E) hT hE hX hrel ho hg hgc ?_
          rcases hcase with ⟨hgd, hev, hs⟩ | ⟨j, want, b, hgd, hgv, hbw, rfl⟩
          · refine .inl ⟨?_, (· = afterQ (off + o.dst.getD 0) o.dst r σ), .inl ⟨_, evQuiet_step hd (evQuiet_mono hle hev), rfl⟩, fun σ' a' w' G' _ hr' e => by subst e; rw [hac] at hr'; exact fin a' w' G' hs hr'⟩
            rcases hgd with h | ⟨j, want, h1, h2⟩
            · exact .inl h
            · exact .inr ⟨j, want, h1, gval_le hle h2⟩
          · exact .inr ⟨j, want, b, hgd, gval_le hle hgv, hbw, hd, fun a' hr' => fin a' w G (fun h => by cases h) (hr'.mono fun g hg => .inl hg)⟩
        · exact absurd (fun j hj => by rw [hl j]; simp; omega) hphase

theorem evDraw_sound (hT : TblOk' P T) (hE : BigOk P E fr0 A0 M w0) (hX : ∃ fs, X.fr = fs ++ fr0) (hmix : P.follows .mixedOrders = true) {ops : Array Oper} {id : Nat} {V0 : Nat → Prop} {c0 : Nat} (hV0 : ∀ g, V0 g → g < c0) {m c : Nat} (h0c : c0 ≤ c) {deps : List (List Nat)} {σ : St} {K : St → Prop} {Q : Exit → Act → World → Prop} {G : Gh} {a : Act} {w : World}
    (hrel : Rel X G (BV V0 c0 c) A0 M w0 n σ a w) (hc0 : c + ops.size ≤ σ.ctr) (h : evDraw P T E n off ops m deps c σ K)
    (hQ : ∀ σ' a w G, σ.ctr ≤ σ'.ctr → Rel X G (BV V0 c0 σ'.ctr) A0 M w0 n σ' a w → K σ' → Q .normal a w) : (Code.region id ops true).wpIn (wideR ro) kk P Q a w := by
  obtain ⟨hdr, hq⟩ := h
  obtain ⟨hm, hdiff, hspec⟩ := drawB_spec hdr
  have hlen : ops.toList.length = ops.size := by simp
  have htl : (ops.toList.take m).length = m := by rw [List.length_take]; omega
  obtain ⟨R, h1, _, h3, h4⟩ := evQ_all hdiff (ops.toList.take m) 0 [] rfl (fun j _ hj d hd => ((hspec j (by omega)).2.1 d hd).1) hq
  refine wpIn_region_any hmix ?_
  have hrel' : Rel X G (BV V0 c0 c) A0 M w0 n σ a { w with drawn := w.drawn + 1 } := hrel.drew
  refine draw_sound hT hE hX hV0 h0c hdr (by omega) hc0 (fun i o hi ho => ?_) h4 hQ ops.size _ σ a _ G (by simp) ?_ ?_ (Nat.le_refl _) (hrel'.mono fun g hg => .inl hg) (.inl ⟨fun j _ => by simp [Array.getD_eq_getD_getElem?, Array.getElem?_replicate]; split <;> rfl, ?_⟩)
  · have := h3 i o (by rw [List.getElem?_take_of_lt hi, Array.getElem?_toList]; exact ho)
    simpa using this
  · intro k hk
    simp [Array.getD_eq_getD_getElem?, Array.getElem?_replicate] at hk
    split at hk <;> simp at hk
  · refine Nat.le_trans (List.countP_le_length) ?_
    simp
  · have hf : ∀ k, (Array.replicate ops.size false).getD k false = false := fun k => by
      rw [Array.getD_eq_getD_getElem?, Array.getElem?_replicate]; split <;> rfl
    refine ⟨fun t => ?_, fun t => ?_, rfl⟩
    · cases findD (ops.toList.map (·.dst)) t with
      | none => rfl
      | some k => simp only [hf, Bool.false_eq_true, if_false]
    · cases ownKey off (ops.toList.map (·.dst)) t with
      | none => rfl
      | some k => simp only [hf, Bool.false_eq_true, if_false]

end
end Go.Dv
