/-
  DERIVED, MY OWN. A part of the proof of ExtentBlocks: see the last text (Row).
-/
import Derived.WalkKit
import Derived.KernelRfl
import Derived.Laws.Bits
set_option linter.all false
/-
  DERIVED, MY OWN. THE ABSTRACT VALUES: data without memory ('Data'), what a slot holds ('AV'), blocks that a call owns ('OB'), and how they stand to the machine's memory.
-/


set_option autoImplicit false
namespace Go.Dv
open Go Go.RowKit

/-- Data that nobody writes any more. -/
inductive Data where
  | val (v : Value)
  | sl (nil : Bool) (xs : List (List Data))
  | ptr (cs : List Data)
  | ifc (t : TypeId) (x : Data)
  | clo (f : FuncId) (caps : List Data)
  deriving Inhabited

/-- What a slot holds: data; an aggregate; a tuple; a slice of, or a pointer into, a block of the call's own (by the block's name and generation). -/
inductive AV where
  | junk
  | d (x : Data) (fr : Bool)
  | agg (cs : List AV)
  | tup (vs : List AV)
  | rs (s g off len : Nat)
  | rp (s g i k : Nat)
  | ifc (t : TypeId) (x : AV)
  | clo (f : FuncId) (caps : List AV)
  | rc (s g off len cap : Nat)
  | yld (s g : Nat)
  deriving Inhabited

/-- A block of the call's own: a row (of a slice), a variable, or another thing of the machine's. -/
inductive OB where
  | row (ty esz gen : Nat) (app mt fr : Bool) (xs : List (List Data))
  | var (ty gen : Nat) (mt : Bool) (cs : List AV)
  | obj (gen : Nat) (o : Obj)
  deriving Inhabited

def OB.gen : OB → Nat
  | .row _ _ g _ _ _ _ => g
  | .var _ g _ _ => g
  | .obj g _ => g

def OB.mt : OB → Bool
  | .row _ _ _ _ m _ _ => m
  | .var _ _ m _ => m
  | .obj _ _ => false

/-- How much of a block a block of ours takes. -/
def obLen : OB → Nat
  | .row _ esz _ _ _ _ xs => xs.length * esz
  | .var _ _ _ cs => cs.length
  | .obj _ _ => 0

structure Loc where
  blk : Nat
  base : Nat
  esz : Nat
  gen : Nat
  size : Nat

/-- Data as it lies in memory; only blocks of F are looked at. -/
inductive Rep (F : Nat → Prop) (w : World) : Data → Value → Prop
  | val (v : Value) (h : v.oneCell' = true) : Rep F w (.val v) v
  | slNil : Rep F w (.sl true []) (.slice none 0 0)
  | sl (xs : List (List Data)) (ad : Addr) (sz cap : Nat) (us : Nat → Nat → Value)
      (hsz : ∀ (i : Nat) c, xs[i]? = some c → c.length = sz) (hcap : xs.length ≤ cap)
      (hc : ∀ (i : Nat) c, xs[i]? = some c → ∀ (k : Nat) d, c[k]? = some d → F ad.block ∧ w.cell? (ad.add (i * sz + k)) = some (us i k))
      (hr : ∀ (i : Nat) c, xs[i]? = some c → ∀ (k : Nat) d, c[k]? = some d → Rep F w d (us i k)) :
      Rep F w (.sl false xs) (.slice (some ad) xs.length cap)
  | ptr (cs : List Data) (ad : Addr) (us : Nat → Value)
      (hc : ∀ (k : Nat) d, cs[k]? = some d → F ad.block ∧ w.cell? (ad.add k) = some (us k))
      (hr : ∀ (k : Nat) d, cs[k]? = some d → Rep F w d (us k)) :
      Rep F w (.ptr cs) (.pointer (some ad))
  | ifc (t : TypeId) (x : Data) (u : Value) (h : Rep F w x u) : Rep F w (.ifc t x) (.iface t u)
  | clo (f : FuncId) (caps : List Data) (us : Array Value) (hs : us.size = caps.length)
      (hr : ∀ (k : Nat) d, caps[k]? = some d → Rep F w d (us.getD k undef)) :
      Rep F w (.clo f caps) (.func (.func f) #[] us)

theorem Rep.oneCell {F : Nat → Prop} {w : World} {d : Data} {v : Value} (h : Rep F w d v) : v.oneCell' = true := by
  cases h <;> first | assumption | rfl

theorem cell?_congr {w w' : World} {a : Addr} (h : w'.heap[a.block]? = w.heap[a.block]?) : w'.cell? a = w.cell? a := by
  simp [World.cell?, h]

@[simp] theorem block_add (a : Addr) (n : Nat) : (a.add n).block = a.block := by
  unfold Addr.add; split <;> rfl

theorem add_add (a : Addr) (m n : Nat) : (a.add m).add n = a.add (m + n) := by
  unfold Addr.add
  by_cases hm : m = 0 <;> by_cases hn : n = 0 <;> simp [hm, hn, Nat.add_assoc]

theorem Rep.mono {F F' : Nat → Prop} {w w' : World} {d : Data} {v : Value} (h : Rep F w d v)
    (hF : ∀ b, F b → F' b ∧ w'.heap[b]? = w.heap[b]?) : Rep F' w' d v := by
  induction h with
  | val v h => exact .val v h
  | slNil => exact .slNil
  | sl xs ad sz cap us hsz hcap hc hr ih =>
    exact .sl xs ad sz cap us hsz hcap
      (fun i c hi k d hk => ⟨(hF _ (hc i c hi k d hk).1).1, by
        rw [cell?_congr (w := w) (by rw [block_add]; exact (hF _ (hc i c hi k d hk).1).2)]; exact (hc i c hi k d hk).2⟩)
      (fun i c hi k d hk => ih i c hi k d hk)
  | ptr cs ad us hc hr ih =>
    exact .ptr cs ad us
      (fun k d hk => ⟨(hF _ (hc k d hk).1).1, by
        rw [cell?_congr (w := w) (by rw [block_add]; exact (hF _ (hc k d hk).1).2)]; exact (hc k d hk).2⟩)
      (fun k d hk => ih k d hk)
  | ifc t x u h ih => exact .ifc t x u ih
  | clo f caps us hs hr ih => exact .clo f caps us hs (fun k d hk => ih k d hk)

/-- The ghost of a call: where its own blocks lie; the generations used so far; the heap's size at its begin; the older blocks on which data may lie. -/
structure Gh where
  loc : Nat → Option Loc
  U : Nat → Nat → Prop
  B : Nat
  A : Nat → Prop

/-- Blocks on which data that nobody writes may lie. -/
def Gh.F (G : Gh) (w : World) (b : Nat) : Prop :=
  (G.A b ∨ G.B ≤ b) ∧ b < w.heap.size ∧ ∀ s L, G.loc s = some L → L.blk ≠ b

def Gh.FF (G : Gh) (w : World) (fr : Bool) (b : Nat) : Prop := G.F w b ∧ (fr = true → G.B ≤ b)

inductive VR (G : Gh) (w : World) : AV → Value → Prop
  | junk (v : Value) : VR G w .junk v
  | d (x : Data) (fr : Bool) (v : Value) (h : Rep (G.FF w fr) w x v) : VR G w (.d x fr) v
  | agg (cs : List AV) (vs : Array Value) (hs : vs.size = cs.length) (h1 : ∀ k, k < cs.length → (vs.getD k undef).oneCell' = true)
      (hr : ∀ (k : Nat) a, cs[k]? = some a → VR G w a (vs.getD k undef)) : VR G w (.agg cs) (.agg vs)
  | tup (cs : List AV) (vs : Array Value) (hs : vs.size = cs.length)
      (hr : ∀ (k : Nat) a, cs[k]? = some a → VR G w a (vs.getD k undef)) : VR G w (.tup cs) (.tuple vs)
  | rs (s g off len : Nat) (v : Value) (h1 : v.oneCell' = true) (hg : G.U s g)
      (h : ∀ L, G.loc s = some L → L.gen = g → ∃ ad cap, v = .slice (some ad) len cap ∧ len ≤ cap ∧
        (0 < cap → ad = ⟨L.blk, L.base + off * L.esz, none⟩) ∧ L.base + (off + cap) * L.esz ≤ L.size) : VR G w (.rs s g off len) v
  | rp (s g i k : Nat) (v : Value) (h1 : v.oneCell' = true) (hg : G.U s g)
      (h : ∀ L, G.loc s = some L → L.gen = g → v = .pointer (some ⟨L.blk, L.base + (i * L.esz + k), none⟩)) : VR G w (.rp s g i k) v
  | ifc (t : TypeId) (x : AV) (u : Value) (h : VR G w x u) : VR G w (.ifc t x) (.iface t u)
  | clo (f : FuncId) (caps : List AV) (us : Array Value) (hs : us.size = caps.length)
      (hr : ∀ (k : Nat) a, caps[k]? = some a → VR G w a (us.getD k undef)) : VR G w (.clo f caps) (.func (.func f) #[] us)
  | rc (s g off len cap : Nat) (v : Value) (h1 : v.oneCell' = true) (hg : G.U s g)
      (h : ∀ L, G.loc s = some L → L.gen = g → ∃ ad, v = .slice (some ad) len cap ∧ len ≤ cap ∧
        (0 < cap → ad = ⟨L.blk, L.base + off * L.esz, none⟩) ∧ L.base + (off + cap) * L.esz ≤ L.size) : VR G w (.rc s g off len cap) v
  | yld (s g : Nat) (v : Value) (h1 : v.oneCell' = true) (hg : G.U s g)
      (h : ∀ L, G.loc s = some L → L.gen = g → v = .func (.yield L.blk) #[] #[]) : VR G w (.yld s g) v

/-- What keeps every relation of values: older names keep their meaning or are out of date, and data's blocks are as they were. -/
structure Ext (G : Gh) (w : World) (G' : Gh) (w' : World) : Prop where
  U : ∀ s g, G.U s g → G'.U s g
  B : G'.B = G.B
  loc : ∀ s L, G'.loc s = some L → G.loc s = some L ∨ ¬ G.U s L.gen
  F : ∀ b, G.F w b → G'.F w' b ∧ w'.heap[b]? = w.heap[b]?

theorem Ext.refl (G : Gh) (w : World) : Ext G w G w := ⟨fun _ _ h => h, rfl, fun _ _ h => .inl h, fun _ h => ⟨h, rfl⟩⟩

theorem Ext.trans {G G1 G2 : Gh} {w w1 w2 : World} (h : Ext G w G1 w1) (k : Ext G1 w1 G2 w2) : Ext G w G2 w2 :=
  ⟨fun s g hg => k.U s g (h.U s g hg), k.B.trans h.B, fun s L hL => (k.loc s L hL).elim (fun h1 => h.loc s L h1) (fun h1 => .inr (fun hu => h1 (h.U _ _ hu))),
    fun b hb => ⟨(k.F b (h.F b hb).1).1, ((k.F b (h.F b hb).1).2).trans (h.F b hb).2⟩⟩

theorem Ext.FF {G G' : Gh} {w w' : World} (h : Ext G w G' w') (fr : Bool) : ∀ b, G.FF w fr b → G'.FF w' fr b ∧ w'.heap[b]? = w.heap[b]? :=
  fun b hb => ⟨⟨(h.F b hb.1).1, fun e => h.B ▸ hb.2 e⟩, (h.F b hb.1).2⟩

theorem VR.ext {G G' : Gh} {w w' : World} {a : AV} {v : Value} (h : VR G w a v) (e : Ext G w G' w') : VR G' w' a v := by
  induction h with
  | junk v => exact .junk v
  | d x fr v h => exact .d x fr v (h.mono (e.FF fr))
  | agg cs vs hs h1 hr ih => exact .agg cs vs hs h1 ih
  | tup cs vs hs hr ih => exact .tup cs vs hs ih
  | rs s g off len v h1 hg h =>
    refine .rs s g off len v h1 (e.U _ _ hg) (fun L hL hgen => ?_)
    rcases e.loc s L hL with hl | hl
    · exact h L hl hgen
    · exact absurd (hgen ▸ hg) hl
  | rp s g i k v h1 hg h =>
    refine .rp s g i k v h1 (e.U _ _ hg) (fun L hL hgen => ?_)
    rcases e.loc s L hL with hl | hl
    · exact h L hl hgen
    · exact absurd (hgen ▸ hg) hl
  | ifc t x u h ih => exact .ifc t x u ih
  | clo f caps us hs hr ih => exact .clo f caps us hs ih
  | rc s g off len cap v h1 hg h =>
    refine .rc s g off len cap v h1 (e.U _ _ hg) (fun L hL hgen => ?_)
    rcases e.loc s L hL with hl | hl
    · exact h L hl hgen
    · exact absurd (hgen ▸ hg) hl
  | yld s g v h1 hg h =>
    refine .yld s g v h1 (e.U _ _ hg) (fun L hL hgen => ?_)
    rcases e.loc s L hL with hl | hl
    · exact h L hl hgen
    · exact absurd (hgen ▸ hg) hl

/-- Is it a value of one cell, surely? -/
def AV.one : AV → Bool
  | .d _ _ | .rs _ _ _ _ | .rp _ _ _ _ | .ifc _ _ | .clo _ _ | .rc _ _ _ _ _ | .yld _ _ => true
  | _ => false

theorem VR.oneCell {G : Gh} {w : World} {a : AV} {v : Value} (h : VR G w a v) (h1 : a.one = true) : v.oneCell' = true := by
  cases h <;> first | (simp [AV.one] at h1; done) | assumption | rfl | (rename_i h; exact Rep.oneCell h)

/-- A block all of whose cells hold values of one cell. -/
def OneBlk (w : World) (b : Nat) : Prop := ∀ arr ty p, w.heap[b]? = some (.cells arr ty p) → ∀ (j : Nat) u, arr[j]? = some u → u.oneCell' = true
theorem OneBlk.congr {w w' : World} {b : Nat} (h : OneBlk w b) (hb : w'.heap[b]? = w.heap[b]?) : OneBlk w' b := fun arr ty p he => h arr ty p (hb ▸ he)
theorem OneBlk.mk {w : World} {b : Nat} {arr : Array Value} {ty : TypeId} {p : Nat × Nat} (hb : w.heap[b]? = some (.cells arr ty p)) (h : ∀ (j : Nat) u, arr[j]? = some u → u.oneCell' = true) : OneBlk w b := by
  intro arr' ty' p' he
  rw [hb] at he
  injection he with he
  injection he with h1
  subst h1
  exact h

/-- A block of the call's own, as it lies. -/
def OwnOk (G : Gh) (w : World) (L : Loc) : OB → Prop
  | .row ty esz gen app mt fr xs =>
    L.gen = gen ∧ L.esz = esz ∧ (mt = false → G.B ≤ L.blk) ∧ (app = true → L.base = 0 ∧ mt = false ∧ OneBlk w L.blk) ∧
    ∃ arr, w.heap[L.blk]? = some (.cells arr ty (0, 0)) ∧ arr.size = L.size ∧ L.base + xs.length * esz ≤ L.size ∧
      ∀ (i : Nat) c, xs[i]? = some c → c.length = esz ∧
        ∀ (k : Nat) d, c[k]? = some d → ∃ u, arr[L.base + (i * esz + k)]? = some u ∧ VR G w (.d d fr) u
  | .var ty gen mt cs =>
    L.gen = gen ∧ L.esz = cs.length ∧ (mt = false → G.B ≤ L.blk) ∧
    ∃ arr, w.heap[L.blk]? = some (.cells arr ty (0, 0)) ∧ arr.size = L.size ∧ L.base + cs.length ≤ L.size ∧
      ∀ (k : Nat) a, cs[k]? = some a → ∃ u, arr[L.base + k]? = some u ∧ VR G w a u ∧ u.oneCell' = true
  | .obj gen o => L.gen = gen ∧ G.B ≤ L.blk ∧ w.heap[L.blk]? = some o

theorem OwnOk.ext {G G' : Gh} {w w' : World} {L : Loc} {ob : OB} (h : OwnOk G w L ob) (e : Ext G w G' w')
    (hb : w'.heap[L.blk]? = w.heap[L.blk]?) : OwnOk G' w' L ob := by
  cases ob with
  | row ty esz gen app mt fr xs =>
    obtain ⟨h1, h2, h3, h3', arr, h4, h5, h6, h7⟩ := h
    refine ⟨h1, h2, fun hm => e.B ▸ h3 hm, fun ha => ⟨(h3' ha).1, (h3' ha).2.1, (h3' ha).2.2.congr hb⟩, arr, hb.trans h4, h5, h6, fun i c hi => ⟨(h7 i c hi).1, fun k d hk => ?_⟩⟩
    obtain ⟨u, hu, hv⟩ := (h7 i c hi).2 k d hk
    exact ⟨u, hu, hv.ext e⟩
  | var ty gen mt cs =>
    obtain ⟨h1, h2, h3, arr, h4, h5, h6, h7⟩ := h
    refine ⟨h1, h2, fun hm => e.B ▸ h3 hm, arr, hb.trans h4, h5, h6, fun k a hk => ?_⟩
    obtain ⟨u, hu, hv, ho⟩ := h7 k a hk
    exact ⟨u, hu, hv.ext e, ho⟩
  | obj gen o =>
    obtain ⟨h1, h2, h3⟩ := h
    exact ⟨h1, e.B ▸ h2, hb.trans h3⟩

theorem OwnOk.gen_eq {G : Gh} {w : World} {L : Loc} {ob : OB} (h : OwnOk G w L ob) : L.gen = ob.gen := by
  cases ob <;> exact h.1

theorem OwnOk.lt {G : Gh} {w : World} {L : Loc} {ob : OB} (h : OwnOk G w L ob) : L.blk < w.heap.size := by
  cases ob with
  | row ty esz gen app mt fr xs => obtain ⟨_, _, _, _, arr, h4, _⟩ := h; exact (Array.getElem?_eq_some_iff.1 h4).1
  | var ty gen mt cs => obtain ⟨_, _, _, arr, h4, _⟩ := h; exact (Array.getElem?_eq_some_iff.1 h4).1
  | obj gen o => obtain ⟨_, _, h4⟩ := h; exact (Array.getElem?_eq_some_iff.1 h4).1

/-- A call's state. -/
structure St where
  env : Nat → AV
  own : Nat → Option OB
  ctr : Nat

/-- An older block that the call may write: what it held, and between which cells it may be written. -/
structure MR where
  arr : Array Value
  ty : TypeId
  lo : Nat
  hi : Nat

/-- An older block that may be written, now: outside its bounds it is as it was. -/
def MOk (w : World) (b : Nat) (m : MR) : Prop :=
  ∃ arr, w.heap[b]? = some (.cells arr m.ty (0, 0)) ∧ arr.size = m.arr.size ∧ ∀ j, (j < m.lo ∨ m.hi ≤ j) → arr[j]? = m.arr[j]?

/-- What has become of the world: older blocks are as they were, but for those that may be written. -/
structure Past (B : Nat) (M : Nat → Option MR) (w0 w : World) : Prop where
  os : w.os = w0.os
  tape : w.tape = w0.tape
  output : w.output = w0.output
  size : w0.heap.size ≤ w.heap.size
  block : ∀ b, b < B → M b = none → w.heap[b]? = w0.heap[b]?
  may : ∀ b m, M b = some m → b < B ∧ MOk w b m

/-- A mark among a frame's deferred calls: behind a range over a function (the block for the rounds' deferred calls, which holds none). -/
def MarksOk (G : Gh) (w : World) (ds : List Deferred) : Prop :=
  ds.Nodup ∧ ∀ d ∈ ds, ∃ D, d = { target := .collected D, args := #[] } ∧ G.F w D ∧ G.B ≤ D ∧ w.heap[D]? = some (.deferred (some []))

/-- A frame that waits: what its slots hold. -/
structure Fr where
  env : Nat → AV
  act : Act

def FrOk (G : Gh) (w : World) (f : Fr) : Prop := (∀ t, VR G w (f.env t) (f.act.tmps.getD t undef)) ∧ MarksOk G w f.act.defers

/-- The frames that wait; and whether the frame itself may bear marks. -/
structure Aux where
  fr : List Fr
  mks : Bool

theorem MarksOk.ext {G G' : Gh} {w w' : World} {ds : List Deferred} (h : MarksOk G w ds) (e : Ext G w G' w') : MarksOk G' w' ds :=
  ⟨h.1, fun d hd => let ⟨D, h1, h2, hb, h3⟩ := h.2 d hd; ⟨D, h1, (e.F D h2).1, e.B ▸ hb, (e.F D h2).2.trans h3⟩⟩
theorem FrOk.ext {G G' : Gh} {w w' : World} {f : Fr} (h : FrOk G w f) (e : Ext G w G' w') : FrOk G' w' f :=
  ⟨fun t => (h.1 t).ext e, h.2.ext e⟩

structure Rel (X : Aux) (G : Gh) (V : Nat → Prop) (A0 : Nat → Prop) (M : Nat → Option MR) (w0 : World) (n : Nat) (σ : St) (a : Act) (w : World) : Prop where
  past : Past G.B M w0 w
  isB : G.B = w0.heap.size
  isA : G.A = A0
  hB : G.B ≤ w.heap.size
  hA : ∀ b, G.A b → b < G.B ∧ M b = none
  used : ∀ s g, G.U s g → V g
  defers : MarksOk G w a.defers ∧ (X.mks = false → a.defers = [])
  tmps : a.tmps.size = n
  env : ∀ t, VR G w (σ.env t) (a.tmps.getD t undef)
  own : ∀ s ob, σ.own s = some ob → ∃ L, G.loc s = some L ∧ OwnOk G w L ob ∧ G.U s L.gen
  loc : ∀ s L, G.loc s = some L → ∃ ob, σ.own s = some ob
  inj : ∀ s s' L L', G.loc s = some L → G.loc s' = some L' → s ≠ s' → L.blk ≠ L'.blk
  old : ∀ s L ob, G.loc s = some L → σ.own s = some ob → (G.B ≤ L.blk ∧ ob.mt = false) ∨ ∃ m, M L.blk = some m ∧ L.base = m.lo ∧ L.base + obLen ob ≤ m.hi
  aux : ∀ f ∈ X.fr, FrOk G w f

end Go.Dv

/-
  DERIVED, MY OWN. WHAT EACH OPERATION DOES TO A CALL's STATE, as plain functions.
-/

set_option autoImplicit false
namespace Go.Dv
open Go Go.RowKit

def szOf (P : Program) (t : TypeId) : Nat := P.cellsOf t
def aggO (P : Program) (t : TypeId) : Option Bool :=
  (P.underlying t).map fun
    | .struct _ | .array _ _ => true
    | _ => false
def zeros (P : Program) (t : TypeId) : Option (List Value) :=
  ((P.info? t).bind (·.zero)).bind fun z => if z.cells.toList.all (·.oneCell') then some z.cells.toList else none
def bytesOf (P : Program) (t : TypeId) : Nat := P.bytesOf t

/-- A constant as data. -/
def ofVal : Value → Data
  | .slice none 0 0 => .sl true []
  | .iface t v => if v.oneCell' then .ifc t (ofVal v) else .val (.iface t v)
  | v => .val v

def ofConst : Value → AV
  | .agg cs => if cs.toList.all (·.oneCell') then .agg (cs.toList.map fun v => .d (ofVal v) true) else .junk
  | .tuple _ => .junk
  | .func fn a b => if a = #[] ∧ b = #[] then (match fn with | .func f => .clo f [] | _ => .junk) else .junk
  | v => .d (ofVal v) true

def St.eval (σ : St) : Operand → AV
  | .tmp t => σ.env t
  | .const v => ofConst v
  | .global _ => .junk
  | .func f => .clo f []

def St.put (σ : St) (dst : Option Tmp) (v : AV) : St :=
  match dst with
  | some t => { σ with env := fun t' => if t' = t then v else σ.env t' }
  | none => σ

def St.setOwn (σ : St) (s : Nat) (ob : Option OB) : St := { σ with own := fun s' => if s' = s then ob else σ.own s' }

/-- Does a name with a generation still name a block? -/
def St.live (σ : St) (s g : Nat) : Bool :=
  match σ.own s with
  | some ob => decide (ob.gen = g)
  | none => false

/-- Arithmetic and comparisons of plain values. -/
def binInt (op : BinOp) (k : IntKind) (a b : Int) : Option Value :=
  match op with
  | .add => some (.int k (k.wrap (a + b)))
  | .sub => some (.int k (k.wrap (a - b)))
  | .mul => some (.int k (k.wrap (a * b)))
  | .quo => if b = 0 then none else some (.int k (k.wrap (a.tdiv b)))
  | .rem => if b = 0 then none else some (.int k (a.tmod b))
  | .and => some (.int k (k.wrap ((BitVec.ofInt k.bits a &&& BitVec.ofInt k.bits b).toNat)))
  | .or => some (.int k (k.wrap ((BitVec.ofInt k.bits a ||| BitVec.ofInt k.bits b).toNat)))
  | .xor => some (.int k (k.wrap ((BitVec.ofInt k.bits a ^^^ BitVec.ofInt k.bits b).toNat)))
  | .andNot => some (.int k (k.wrap ((BitVec.ofInt k.bits a &&& ~~~ BitVec.ofInt k.bits b).toNat)))
  | .eql => some (.bool (decide (a = b)))
  | .neq => some (.bool (!decide (a = b)))
  | .lss => some (.bool (decide (a < b)))
  | .leq => some (.bool (decide (a ≤ b)))
  | .gtr => some (.bool (decide (a > b)))
  | .geq => some (.bool (decide (a ≥ b)))
  | _ => none

def binShift (op : BinOp) (k : IntKind) (a b : Int) : Option Value :=
  if b < 0 then none else
  match op with
  | .shl => some (.int k (k.wrap (a * 2 ^ (min b.toNat k.bits))))
  | .shr => some (.int k (a.fdiv (2 ^ (min b.toNat k.bits))))
  | _ => none

def binStr (op : BinOp) (x y : ByteArray) : Option Value :=
  match op with
  | .add => if x.size + y.size ≤ 140737488355328 then some (.string (x ++ y)) else none
  | .eql => some (.bool (x.toList == y.toList))
  | .neq => some (.bool (!(x.toList == y.toList)))
  | .lss => some (.bool (Op.bytesLess x.toList y.toList))
  | .leq => some (.bool (Op.bytesLess x.toList y.toList || x.toList == y.toList))
  | .gtr => some (.bool (!(Op.bytesLess x.toList y.toList || x.toList == y.toList)))
  | .geq => some (.bool (!Op.bytesLess x.toList y.toList))
  | _ => none

def isShift : BinOp → Bool
  | .shl | .shr => true
  | _ => false

def binVal (P : Program) (op : BinOp) (t : TypeId) (x y : Value) : Option Value :=
  match x, y with
  | .int k a, .int k' b => if isShift op then binShift op k a b else if k = k' then binInt op k a b else none
  | .string a, .string b => if isShift op then none else binStr op a b
  | .bool a, .bool b =>
    match P.underlying t with
    | some .bool => (match op with | .eql => some (.bool (a == b)) | .neq => some (.bool (!(a == b))) | _ => none)
    | _ => none
  | .pointer none, .pointer none =>
    match P.underlying t with
    | some (.pointer _) => (match op with | .eql => some (.bool true) | .neq => some (.bool false) | _ => none)
    | _ => none
  | _, _ => none

def eqRes (op : BinOp) (b : Bool) : Option AV :=
  match op with
  | .eql => some (.d (.val (.bool b)) true)
  | .neq => some (.d (.val (.bool !b)) true)
  | _ => none

def isSliceT (P : Program) (t : TypeId) : Bool := match P.underlying t with | some (.slice _) => true | _ => false
def isPtrT (P : Program) (t : TypeId) : Bool := match P.underlying t with | some (.pointer _) => true | _ => false
def isIfcT (P : Program) (t : TypeId) : Bool := match P.underlying t with | some (.interface _) => true | _ => false

/-- Equality of two plain values of a type. -/
def eqVal (P : Program) (t : TypeId) (a b : Value) : Option Bool :=
  match P.underlying t, a, b with
  | some (.int _), .int k x, .int k' y => if k = k' then some (decide (x = y)) else none
  | some .bool, .bool x, .bool y => some (x == y)
  | some .string, .string x, .string y => some (x.toList == y.toList)
  | _, _, _ => none

def eqFs (P : Program) (xs ys : List AV) : List (TypeId × Nat) → Option Bool
  | [] => some true
  | (t, o) :: fs =>
    match xs[o]?, ys[o]? with
    | some (.d (.val a) _), some (.d (.val b) _) =>
      match eqVal P t a b, eqFs P xs ys fs with
      | some r, some r' => some (r && r')
      | _, _ => none
    | _, _ => none

/-- The fields of a struct that can be compared so. -/
def eqFields? (P : Program) (t : TypeId) : Option (List (TypeId × Nat)) :=
  match P.underlying t with
  | some (.struct fs) => if P.stoodInHeld t = false ∧ P.eqGuardType P.depth t = false ∧ (fs.toList.all fun f => f.name != "_") = true then some (fs.toList.map fun f => (f.type, f.offset)) else none
  | _ => none

/-- Equality of two structs of plain fields. -/
def eqAgg (P : Program) (t : TypeId) (xs ys : List AV) : Option Bool :=
  match eqFields? P t with
  | some l => eqFs P xs ys l
  | none => none

def binAV (P : Program) (σ : St) (op : BinOp) (t : TypeId) (x y : AV) : Option AV :=
  match x, y with
  | .d (.val a) _, .d (.val b) _ => (binVal P op t a b).map fun v => .d (.val v) true
  | .d (.sl n _) _, .d (.sl true []) _ => if isSliceT P t then eqRes op n else none
  | .rs s g _ _, .d (.sl true []) _ => if isSliceT P t ∧ σ.live s g = true then eqRes op false else none
  | .rp s g _ _, .d (.val (.pointer none)) _ => if isPtrT P t ∧ σ.live s g = true then eqRes op false else none
  | .d (.ptr _) _, .d (.val (.pointer none)) _ => if isPtrT P t then eqRes op false else none
  | .d (.ifc _ _) _, .d (.val .nilIface) _ => if isIfcT P t then eqRes op false else none
  | .agg xs, .agg ys => match eqAgg P t xs ys with | some b => eqRes op b | none => none
  | _, _ => none

def unAV (op : UnOp) (x : AV) : Option AV :=
  match op, x with
  | .not, .d (.val (.bool b)) _ => some (.d (.val (.bool !b)) true)
  | .neg, .d (.val (.int k n)) _ => some (.d (.val (.int k (k.wrap (0 - n)))) true)
  | .xor, .d (.val (.int k n)) _ =>
    some (.d (.val (.int k (k.wrap ((BitVec.ofInt k.bits (if k.signed then -1 else k.max) ^^^ BitVec.ofInt k.bits n).toNat)))) true)
  | _, _ => none

/-- The cells of a value: of an aggregate its parts, of any other value itself. -/
def cellsAV : AV → List AV
  | .agg cs => cs
  | v => [v]

/-- Cells that may lie in a variable: each one of one cell. -/
def onesB (cs : List AV) : Bool := cs.all AV.one

/-- A value of type t out of cells. -/
def ofCells (P : Program) (t : TypeId) (cs : List AV) : Option AV :=
  match aggO P t with
  | some true => if cs.length = szOf P t then some (.agg cs) else none
  | some false => match cs with
    | [c] => some c
    | _ => none
  | none => none

def lift (fr : Bool) (cs : List Data) : List AV := cs.map fun x => .d x fr

/-- The cells from k on, as many as type t has. -/
def window {α : Type} (P : Program) (t : TypeId) (k : Nat) (cs : List α) : List α := (cs.drop k).take (if aggO P t = some true then szOf P t else 1)

def loadAV (P : Program) (σ : St) (t : TypeId) (p : AV) : Option AV :=
  match p with
  | .rp s g i k =>
    match σ.own s with
    | some (.row _ _ g' _ _ fr xs) => if g' = g then (match xs[i]? with | some c => ofCells P t (lift fr (window P t k c)) | none => none) else none
    | some (.var _ g' _ cs) => if g' = g ∧ i = 0 then ofCells P t (window P t k cs) else none
    | _ => none
  | .d (.ptr cs) fr => ofCells P t (lift fr (window P t 0 cs))
  | _ => none

def fieldPlace? (P : Program) (t : TypeId) (f : Nat) : Option (Nat × TypeId) :=
  match P.underlying t with
  | some (.struct fs) => (fs[f]?).map fun x => (x.offset, x.type)
  | _ => none

def fieldAddrAV (P : Program) (σ : St) (t : TypeId) (x : AV) (f : Nat) : Option AV :=
  match fieldPlace? P t f with
  | some (off, ft) =>
    if szOf P ft = 0 then none else
    match x with
    | .rp s g i k => if σ.live s g then some (.rp s g i (k + off)) else none
    | .d (.ptr cs) fr => some (.d (.ptr (cs.drop off)) fr)
    | _ => none
  | none => none

def fieldAV (P : Program) (t : TypeId) (x : AV) (f : Nat) : Option AV :=
  match fieldPlace? P t f with
  | some (off, ft) =>
    match x with
    | .agg cs => ofCells P ft (window P ft off cs)
    | _ => none
  | none => none

def intOfAV : AV → Option Int
  | .d (.val (.int _ n)) _ => some n
  | _ => none

def indexAddrAV (P : Program) (σ : St) (t : TypeId) (x ix : AV) : Option AV :=
  match intOfAV ix with
  | none => none
  | some i =>
    if 0 ≤ i then
      match P.underlying t with
      | some (.array n e) =>
        if i < (n : Int) ∧ 0 < szOf P e then
          match x with
          | .rp s g j k => if σ.live s g then some (.rp s g j (k + i.toNat * szOf P e)) else none
          | .d (.ptr cs) fr => some (.d (.ptr (cs.drop (i.toNat * szOf P e))) fr)
          | _ => none
        else none
      | some (.slice e) =>
        match x with
        | .rs s g off len =>
          if i < (len : Int) then
            match σ.own s with
            | some (.row _ esz g' _ _ _ _) => if g' = g ∧ esz = szOf P e ∧ 0 < szOf P e then some (.rp s g (off + i.toNat) 0) else none
            | _ => none
          else none
        | .d (.sl _ xs) fr =>
          match xs[i.toNat]? with
          | some c => if c.length = szOf P e ∧ 0 < szOf P e then some (.d (.ptr c) fr) else none
          | none => none
        | _ => none
      | _ => none
    else none

def indexAV (P : Program) (t : TypeId) (x ix : AV) : Option AV :=
  match intOfAV ix with
  | none => none
  | some i =>
    if 0 ≤ i then
      match P.underlying t, x with
      | some (.array n e), .agg cs => if i < (n : Int) then ofCells P e (window P e (i.toNat * szOf P e) cs) else none
      | some .string, .d (.val (.string s)) _ => if h : i.toNat < s.size then some (.d (.val (.int .u8 (s[i.toNat]'h).toNat)) true) else none
      | _, _ => none
    else none

/-- Bounds of a slice expression: low and high, of something with so many places. -/
def boundsAV (len cap : Nat) (lo hi : Option AV) : Option (Nat × Nat) :=
  match (match hi with | none => some (len : Int) | some v => intOfAV v) with
  | none => none
  | some h =>
    if 0 ≤ h ∧ h ≤ (cap : Int) then
      match (match lo with | none => some (0 : Int) | some v => intOfAV v) with
      | none => none
      | some l => if 0 ≤ l ∧ l ≤ h then some (l.toNat, h.toNat) else none
    else none

def sliceAV (P : Program) (σ : St) (t : TypeId) (x : AV) (lo hi : Option AV) : Option AV :=
  match P.underlying t with
  | some .string =>
    match x with
    | .d (.val (.string s)) _ => (boundsAV s.size s.size lo hi).map fun (l, h) => .d (.val (.string (s.extract l h))) true
    | _ => none
  | some (.slice e) =>
    match x with
    | .d (.sl n xs) fr =>
      (boundsAV xs.length xs.length lo hi).bind fun (l, h) =>
        if (xs.all fun c => c.length == szOf P e) ∧ 0 < szOf P e then some (.d (.sl n ((xs.drop l).take (h - l))) fr) else none
    | .rs s g off len =>
      match σ.own s with
      | some (.row _ esz g' _ _ _ _) =>
        if g' = g ∧ esz = szOf P e ∧ 0 < szOf P e then (boundsAV len len lo hi).map fun (l, h) => .rs s g (off + l) (h - l) else none
      | _ => none
    | .rc s g off len cap =>
      match σ.own s with
      | some (.row _ esz g' _ _ _ _) =>
        if g' = g ∧ esz = szOf P e ∧ 0 < szOf P e then (boundsAV len cap lo hi).map fun (l, h) => .rc s g (off + l) (h - l) (cap - l) else none
      | _ => none
    | _ => none
  | _ => none

def lenAV (P : Program) (σ : St) (t : TypeId) (x : AV) : Option AV :=
  match P.underlying t, x with
  | some .string, .d (.val (.string s)) _ => some (.d (.val (.int .i64 s.size)) true)
  | some (.slice _), .d (.sl _ xs) _ => some (.d (.val (.int .i64 xs.length)) true)
  | some (.slice _), .rs s g _ len => if σ.live s g then some (.d (.val (.int .i64 len)) true) else none
  | some (.slice _), .rc s g _ len _ => if σ.live s g then some (.d (.val (.int .i64 len)) true) else none
  | some (.array n _), _ => some (.d (.val (.int .i64 n)) true)
  | _, _ => none

def capAV (P : Program) (σ : St) (t : TypeId) (x : AV) : Option AV :=
  match P.underlying t, x with
  | some (.slice _), .rc s g _ _ cap => if σ.live s g then some (.d (.val (.int .i64 cap)) true) else none
  | _, _ => none

/-- A slice whose capacity is known, as one. -/
def deRc : AV → AV
  | .rc s g off len _ => .rs s g off len
  | v => v

def extractAV (x : AV) (i : Nat) : Option AV :=
  match x with
  | .tup vs => vs[i]?
  | _ => none

def makeIfcAV (P : Program) (t : TypeId) (x : AV) : Option AV :=
  if isIfcT P t then none else
  if (P.underlying t).isNone then none else
  match x with
  | .d x fr => some (.d (.ifc t x) fr)
  | x => if x.one then some (.ifc t x) else none

def convAV (P : Program) (src dst : TypeId) (x : AV) : Option AV :=
  match P.underlying src, P.underlying dst, x with
  | some (.int _), some (.int k), .d (.val (.int _ n)) _ => some (.d (.val (.int k (k.wrap n))) true)
  | some .string, some .string, .d (.val (.string s)) _ => some (.d (.val (.string s)) true)
  | _, _, _ => none

/-- min and max of whole numbers of one kind. -/
def minmaxAV (isMax : Bool) (x y : AV) : Option AV :=
  match x, y with
  | .d (.val (.int k a)) _, .d (.val (.int _ b)) _ => some (.d (.val (.int k (if isMax then max a b else min a b))) true)
  | _, _ => none

/-- Fill parts into cells. -/
def fillAV (place : Nat → Option (Nat × Nat)) : List AV → List (Nat × AV) → Option (List AV)
  | cells, [] => some cells
  | cells, (i, v) :: rest =>
    match place i with
    | none => none
    | some (off, size) =>
      if (cellsAV v).length = size ∧ off + size ≤ cells.length ∧ onesB (cellsAV v) = true then
        fillAV place (cells.take off ++ cellsAV v ++ cells.drop (off + size)) rest
      else none

def buildPlace (P : Program) (t : TypeId) (i : Nat) : Option (Nat × Nat) :=
  match P.underlying t with
  | some (.struct fs) => (fs[i]?).map fun f => (f.offset, szOf P f.type)
  | some (.array _ e) => some (i * szOf P e, szOf P e)
  | _ => none

def fieldsKnown (P : Program) (t : TypeId) : Bool :=
  match P.underlying t with
  | some (.struct fs) => fs.toList.all fun f => (P.info? f.type).isSome
  | some (.array _ e) => (P.info? e).isSome
  | _ => false

def buildAV (P : Program) (t : TypeId) (parts : List (Nat × AV)) : Option AV :=
  match zeros P t with
  | some z => if aggO P t = some true then (fillAV (buildPlace P t) (z.map fun v => .d (ofVal v) true) parts).map .agg else none
  | none => none

/-- An element's cells as data. -/
def dataOf : AV → Option (Data × Bool)
  | .d x fr => some (x, fr)
  | _ => none

def datas : List AV → Option (List Data × Bool)
  | [] => some ([], true)
  | a :: l => match dataOf a, datas l with
    | some (x, fr), some (xs, fr') => some (x :: xs, fr && fr')
    | _, _ => none

/-- Elements laid into a row, by their places. -/
def fillRow (e : Nat) : List (List Data) → Bool → List (Nat × AV) → Option (List (List Data) × Bool)
  | xs, fr, [] => some (xs, fr)
  | xs, fr, (i, v) :: rest =>
    match datas (cellsAV v) with
    | some (c, fr') => if c.length = e ∧ i < xs.length then fillRow e (xs.set i c) (fr && fr') rest else none
    | none => none

def obEsz : OB → Nat
  | .row _ e _ _ _ _ _ => e
  | .var _ _ _ cs => cs.length
  | .obj _ _ => 0

def zeroRow (P : Program) (e : TypeId) (n : Nat) : Option (List (List Data)) :=
  match zeros P e with
  | some z => if z.length = szOf P e ∧ 0 < szOf P e then some (List.replicate n (z.map ofVal)) else none
  | none => none

def makeSliceAV (P : Program) (s g : Nat) (t : TypeId) (l c : AV) : Option (AV × Option OB) :=
  match P.underlying t, intOfAV l, intOfAV c with
  | some (.slice e), some l, some c =>
    if 0 ≤ l ∧ l ≤ c ∧ c * (bytesOf P e : Int) ≤ 140737488355328 ∧ c ≤ 140737488355328 then
      (zeroRow P e l.toNat).map fun xs => (.rs s g 0 l.toNat, some (.row e (szOf P e) g true false true xs))
    else none
  | _, _, _ => none

def buildSliceAV (P : Program) (σ : St) (s g : Nat) (t : TypeId) (len : Nat) (parts : List (Nat × Operand)) : Option (AV × Option OB) :=
  match P.underlying t with
  | some (.slice e) =>
    if len * szOf P e ≤ 16777216 then
      match zeroRow P e len with
      | some xs => (fillRow (szOf P e) xs true (parts.map fun (i, x) => (i, σ.eval x))).map fun (xs, fr) => (.rs s g 0 len, some (.row e (szOf P e) g true false fr xs))
      | none => none
    else none
  | _ => none

/-- What an operation without effect gives: a value, and the block that it makes (with the name and the generation that are its own). -/
def evPure (P : Program) (σ : St) (s g : Nat) : Op → Option (AV × Option OB)
  | .move x | .assign x => some (σ.eval x, none)
  | .pick c a b => match σ.eval c with
    | .d (.val (.bool t)) _ => some (if t then σ.eval a else σ.eval b, none)
    | _ => none
  | .alloc e => (zeros P e).map fun z => (.rp s g 0 0, some (.var e g false (z.map fun v => .d (ofVal v) true)))
  | .box e x =>
    let cs := cellsAV (σ.eval x)
    if cs.length = szOf P e ∧ onesB cs = true then some (.rp s g 0 0, some (.var e g false cs)) else none
  | .build t parts => if fieldsKnown P t = false then none else (buildAV P t (parts.toList.map fun (i, x) => (i, σ.eval x))).map fun v => (v, none)
  | .buildSlice t len parts => buildSliceAV P σ s g t len parts.toList
  | .makeSlice t l c => makeSliceAV P s g t (σ.eval l) (σ.eval c)
  | .load t p => (loadAV P σ t (σ.eval p)).map fun v => (v, none)
  | .nilCheck x => match σ.eval x with
    | .rp s g i k => if σ.live s g then some (.rp s g i k, none) else none
    | .d (.ptr cs) fr => some (.d (.ptr cs) fr, none)
    | _ => none
  | .binOp op t x y _ => (binAV P σ op t (σ.eval x) (σ.eval y)).map fun v => (v, none)
  | .unOp op _ x => (unAV op (σ.eval x)).map fun v => (v, none)
  | .convert src dst x => (convAV P src dst (σ.eval x)).map fun v => (v, none)
  | .makeInterface t x => (makeIfcAV P t (σ.eval x)).map fun v => (v, none)
  | .slice t x lo hi none => (sliceAV P σ t (σ.eval x) (lo.map σ.eval) (hi.map σ.eval)).map fun v => (v, none)
  | .fieldAddr t x f => (fieldAddrAV P σ t (σ.eval x) f).map fun v => (v, none)
  | .field t x f => (fieldAV P t (σ.eval x) f).map fun v => (v, none)
  | .indexAddr t x i => (indexAddrAV P σ t (σ.eval x) (σ.eval i)).map fun v => (v, none)
  | .index t x i => (indexAV P t (σ.eval x) (σ.eval i)).map fun v => (v, none)
  | .extract x i => (extractAV (σ.eval x) i).map fun v => (v, none)
  | .makeFunc (.func f) first caps => if first = #[] then some (.clo f (caps.toList.map σ.eval), none) else none
  | .call { callee := .builtin b, args, argTypes } =>
    match b, args.toList, argTypes.toList with
    | .len, [x], [t] => (lenAV P σ t (σ.eval x)).map fun v => (v, none)
    | .cap, [x], [t] => (capAV P σ t (σ.eval x)).map fun v => (v, none)
    | .min, x :: rest, _ => ((rest.map σ.eval).foldlM (minmaxAV false) (σ.eval x)).map fun v => (v, none)
    | .max, x :: rest, _ => ((rest.map σ.eval).foldlM (minmaxAV true) (σ.eval x)).map fun v => (v, none)
    | _, _, _ => none
  | _ => none

end Go.Dv

/-
  DERIVED, MY OWN. EACH OPERATION WITHOUT EFFECT, HELD AGAINST THE MACHINE.
-/

set_option autoImplicit false
namespace Go.Dv
open Go Go.RowKit

section
variable {P : Program} {G : Gh} {w : World}

theorem ofVal_rep {F : Nat → Prop} (v : Value) (h : v.oneCell' = true) : Rep F w (ofVal v) v := by
  fun_induction ofVal v with
  | case1 => exact .slNil
  | case2 t v hv ih => exact .ifc t _ v (ih hv)
  | case3 t v hv => exact .val _ rfl
  | case4 v h1 h2 => exact .val v h

theorem ofConst_vr (v : Value) : VR G w (ofConst v) v := by
  cases v with
  | agg cs =>
    simp only [ofConst]
    split
    · rename_i hall
      have hall' : ∀ x ∈ cs.toList, x.oneCell' = true := List.all_eq_true.1 hall
      refine .agg _ _ (by simp) (fun k hk => ?_) (fun k a ha => ?_)
      · simp at hk
        rw [Array.getD_eq_getD_getElem?, Array.getElem?_eq_getElem hk]
        exact hall' _ (by simp)
      · simp only [List.getElem?_map] at ha
        cases hc : cs[k]? with
        | none => simp [hc] at ha
        | some x =>
          simp [hc] at ha
          subst ha
          simp [hc]
          exact .d _ _ _ (ofVal_rep x (hall' x (by simpa using Array.mem_of_getElem? hc)))
    · exact .junk _
  | tuple cs => exact .junk _
  | func fn a b =>
    simp only [ofConst]
    split
    · rename_i h
      obtain ⟨rfl, rfl⟩ := h
      cases fn with
      | func f => exact .clo f [] #[] rfl (by simp)
      | _ => exact .junk _
    · exact .junk _
  | _ => exact .d _ _ _ (ofVal_rep _ rfl)

theorem eval_vr {σ : St} {a : Act} (hE : ∀ t, VR G w (σ.env t) (a.tmps.getD t undef)) (x : Operand) : VR G w (σ.eval x) (a.eval x) := by
  cases x with
  | tmp t => exact hE t
  | const v => exact ofConst_vr v
  | global g => exact .junk _
  | func f => exact .clo f [] #[] rfl (by simp)

/-! ### types -/
theorem info_of_agg {t : TypeId} {b : Bool} (h : aggO P t = some b) : ∃ i, P.info? t = some i := by
  unfold aggO Program.underlying at h
  cases hi : P.info? t with
  | none => simp [hi] at h
  | some i => exact ⟨i, rfl⟩

theorem run_isAgg' {t : TypeId} {b : Bool} (h : aggO P t = some b) (w : World) : (isAgg t).run P w = .ok b w := by
  unfold aggO at h
  cases hu : P.underlying t with
  | none => simp [hu] at h
  | some d =>
    simp [hu] at h
    subst h
    simp only [isAgg, Sem.run_bind, run_underlying hu, Result.andThen_ok]
    cases d <;> rfl

theorem run_sizeOf' {t : TypeId} {i : TypeInfo} (h : P.info? t = some i) (w : World) : (sizeOf t).run P w = .ok (szOf P t) w := by
  simp [sizeOf, typeInfo, h, szOf, Program.cellsOf]

theorem info_of_underlying {t : TypeId} {d : TypeDesc} (h : P.underlying t = some d) : ∃ i, P.info? t = some i := by
  unfold Program.underlying at h
  cases hi : P.info? t with
  | none => simp [hi] at h
  | some i => exact ⟨i, rfl⟩

/-! ### loads -/
/-- At an address lie cells as these. -/
def WinOk (G : Gh) (w : World) (ad : Addr) (cs : List AV) : Prop :=
  ∀ (j : Nat) a, cs[j]? = some a → ∃ u, w.cell? (ad.add j) = some u ∧ VR G w a u ∧ u.oneCell' = true

theorem load_of_win {t : TypeId} {ad : Addr} {cs : List AV} {v : AV} (hw : WinOk G w ad cs) (h : ofCells P t cs = some v) :
    ∃ u, (loadVar t ad).run P w = .ok u w ∧ VR G w v u := by
  unfold ofCells at h
  cases hb : aggO P t with
  | none => simp [hb] at h
  | some b =>
    obtain ⟨i, hi⟩ := info_of_agg hb
    cases b with
    | true =>
      simp only [hb] at h
      split at h
      · rename_i hl
        obtain rfl := Option.some.inj h
        have hf : ∀ j, j < szOf P t → w.cell? (ad.add j) = some ((w.cell? (ad.add j)).getD undef) := by
          intro j hj
          obtain ⟨u, hu, _⟩ := hw j cs[j] (List.getElem?_eq_getElem (by omega))
          simp [hu]
        have hr := run_loadCells (P := P) w ad (szOf P t) (fun j => (w.cell? (ad.add j)).getD undef) hf
        refine ⟨_, ?_, .agg cs ((List.range (szOf P t)).map fun j => (w.cell? (ad.add j)).getD undef).toArray (by simp [hl]) (fun k hk => ?_) (fun k a ha => ?_)⟩
        · simp [loadVar, run_isAgg' hb, run_sizeOf' hi, hr]
        · obtain ⟨u, hu, _, h1⟩ := hw k cs[k] (List.getElem?_eq_getElem hk)
          have hk' : k < szOf P t := by omega
          simp [hk', hu, h1]
        · obtain ⟨u, hu, hv, h1⟩ := hw k a ha
          have hk' : k < szOf P t := by
            have := (List.getElem?_eq_some_iff.1 ha).1
            omega
          simp [hk', hu, hv]
      · cases h
    | false =>
      simp only [hb] at h
      split at h
      · rename_i c
        obtain rfl := Option.some.inj h
        obtain ⟨u, hu, hv, _⟩ := hw 0 c rfl
        have hu' : w.cell? ad = some u := by simpa [Addr.add] using hu
        exact ⟨u, by simp [loadVar, run_isAgg' hb, hu'], hv⟩
      · cases h

theorem WinOk.window {t : TypeId} {ad : Addr} {cs : List AV} (k : Nat) (h : WinOk G w ad cs) : WinOk G w (ad.add k) (window P t k cs) := by
  intro j a ha
  unfold Dv.window at ha
  generalize (if aggO P t = some true then szOf P t else 1) = m at ha
  rw [List.getElem?_take] at ha
  split at ha
  · rw [List.getElem?_drop] at ha
    obtain ⟨u, hu, hv⟩ := h _ a ha
    exact ⟨u, by rw [add_add]; exact hu, hv⟩
  · cases ha

theorem lift_get {fr : Bool} {cs : List Data} {j : Nat} {a : AV} (h : (lift fr cs)[j]? = some a) : ∃ x, cs[j]? = some x ∧ a = .d x fr := by
  unfold lift at h
  rw [List.getElem?_map] at h
  cases hc : cs[j]? with
  | none => simp [hc] at h
  | some x => simp [hc] at h; exact ⟨x, rfl, h.symm⟩

theorem lift_window {t : TypeId} {k : Nat} {fr : Bool} {c : List Data} : lift fr (window P t k c) = window P t k (lift fr c) := by
  simp [lift, Dv.window, List.map_take, List.map_drop]

theorem addr_add (b o n : Nat) : (⟨b, o, none⟩ : Addr).add n = ⟨b, o + n, none⟩ := by
  unfold Addr.add; split <;> simp_all

theorem cell_of_arr {b o : Nat} {arr : Array Value} {ty : TypeId} {fz : Nat × Nat} (h : w.heap[b]? = some (.cells arr ty fz)) : w.cell? ⟨b, o, none⟩ = arr[o]? := by
  simp [World.cell?, h]

/-- An element of a row of the call's own. -/
theorem OwnOk.rowWin {L : Loc} {ty esz gen : Nat} {app mt fr : Bool} {xs : List (List Data)} (h : OwnOk G w L (.row ty esz gen app mt fr xs))
    {i : Nat} {c : List Data} (hi : xs[i]? = some c) : WinOk G w ⟨L.blk, L.base + i * L.esz, none⟩ (lift fr c) := by
  obtain ⟨h1, h2, h3, h3', arr, h4, h5, h6, h7⟩ := h
  intro j a ha
  obtain ⟨x, hx, rfl⟩ := lift_get ha
  obtain ⟨u, hu, hv⟩ := (h7 i c hi).2 j x hx
  refine ⟨u, ?_, hv, hv.oneCell rfl⟩
  rw [addr_add, cell_of_arr h4, h2, Nat.add_assoc]
  exact hu

theorem OwnOk.varWin {L : Loc} {ty gen : Nat} {mt : Bool} {cs : List AV} (h : OwnOk G w L (.var ty gen mt cs)) :
    WinOk G w ⟨L.blk, L.base, none⟩ cs := by
  obtain ⟨h1, h2, h3, arr, h4, h5, h6, h7⟩ := h
  intro j a ha
  obtain ⟨u, hu, hv, ho⟩ := h7 j a ha
  exact ⟨u, by rw [addr_add, cell_of_arr h4]; exact hu, hv, ho⟩

theorem Rep.ptrWin {fr : Bool} {cs : List Data} {ad : Addr} (h : Rep (G.FF w fr) w (.ptr cs) (.pointer (some ad))) : WinOk G w ad (lift fr cs) := by
  cases h with
  | ptr _ _ us hc hr =>
    intro j a ha
    obtain ⟨x, hx, rfl⟩ := lift_get ha
    exact ⟨us j, (hc j x hx).2, .d _ _ _ (hr j x hx), (hr j x hx).oneCell⟩

theorem loadAV_sound {σ : St} {t : TypeId} {p v : AV} {u0 : Value} (hO : ∀ s ob, σ.own s = some ob → ∃ L, G.loc s = some L ∧ OwnOk G w L ob)
    (hp : VR G w p u0) (h : loadAV P σ t p = some v) : ∃ u, (Instr.loadAt t u0).run P w = .ok u w ∧ VR G w v u := by
  unfold loadAV at h
  split at h
  · rename_i s g i k
    split at h
    · rename_i ty esz g' app mt fr xs hs
      split at h
      · rename_i hg
        subst hg
        split at h
        · rename_i c hc
          obtain ⟨L, hL, hok⟩ := hO s _ hs
          cases hp with
          | rp _ _ _ _ _ h1 hgn hv =>
            have hu0 := hv L hL hok.gen_eq
            subst hu0
            have hwin := (hok.rowWin hc).window (P := P) (t := t) k
            rw [← lift_window, addr_add, Nat.add_assoc] at hwin
            obtain ⟨u, hr, hvr⟩ := load_of_win hwin h
            exact ⟨u, by simp [Instr.loadAt, Instr.sureAddr, hr], hvr⟩
        · cases h
      · cases h
    · rename_i ty g' mt cs hs
      split at h
      · rename_i hg
        obtain ⟨rfl, rfl⟩ := hg
        obtain ⟨L, hL, hok⟩ := hO s _ hs
        cases hp with
        | rp _ _ _ _ _ h1 hgn hv =>
          have hu0 := hv L hL hok.gen_eq
          subst hu0
          have hwin := hok.varWin.window (P := P) (t := t) k
          rw [addr_add] at hwin
          obtain ⟨u, hr, hvr⟩ := load_of_win hwin h
          refine ⟨u, ?_, hvr⟩
          simp [Instr.loadAt, Instr.sureAddr, hr]
      · cases h
    · cases h
  · rename_i cs fr
    cases hp with
    | d _ _ _ hrep =>
      cases hrep with
      | ptr _ ad us hc hr =>
        have hwin := (Rep.ptrWin (G := G) (w := w) (.ptr cs ad us hc hr)).window (P := P) (t := t) 0
        rw [← lift_window] at hwin
        have hwin' : WinOk G w ad (lift fr (window P t 0 cs)) := by simpa [Addr.add] using hwin
        obtain ⟨u, hr', hvr⟩ := load_of_win hwin' h
        exact ⟨u, by simp [Instr.loadAt, Instr.sureAddr, hr'], hvr⟩
  · cases h

/-! ### addresses -/
theorem run_noView {b : Nat} {arr : Array Value} {ty : TypeId} {fz : Nat × Nat} {ad : Addr} (hb : ad.block = b) (h : w.heap[b]? = some (.cells arr ty fz)) :
    (noView ad).run P w = .ok () w := by
  simp [noView, viewAt, World.shape?, hb, h]

theorem live_loc {σ : St} (hO : ∀ s ob, σ.own s = some ob → ∃ L, G.loc s = some L ∧ OwnOk G w L ob) {s g : Nat} (h : σ.live s g = true) :
    ∃ ob L, σ.own s = some ob ∧ G.loc s = some L ∧ OwnOk G w L ob ∧ L.gen = g := by
  unfold St.live at h
  cases ho : σ.own s with
  | none => simp [ho] at h
  | some ob =>
    simp [ho] at h
    obtain ⟨L, hL, hok⟩ := hO s ob ho
    exact ⟨ob, L, rfl, hL, hok, hok.gen_eq.trans h⟩

theorem VR.rp_live {s g i k : Nat} {v : Value} {L : Loc} (h : VR G w (.rp s g i k) v) (hL : G.loc s = some L) (hg : L.gen = g) :
    G.U s g ∧ v = .pointer (some ⟨L.blk, L.base + (i * L.esz + k), none⟩) := by
  cases h with
  | rp _ _ _ _ _ h1 hgn hv => exact ⟨hgn, hv L hL hg⟩

theorem VR.rs_live {s g off len : Nat} {v : Value} {L : Loc} (h : VR G w (.rs s g off len) v) (hL : G.loc s = some L) (hg : L.gen = g) :
    G.U s g ∧ ∃ ad cap, v = .slice (some ad) len cap ∧ len ≤ cap ∧
        (0 < cap → ad = ⟨L.blk, L.base + off * L.esz, none⟩) ∧ L.base + (off + cap) * L.esz ≤ L.size := by
  cases h with
  | rs _ _ _ _ _ h1 hgn hv => exact ⟨hgn, hv L hL hg⟩

theorem VR.mk_rp {s g i k : Nat} {L : Loc} {o : Nat} (hg : G.U s g) (hL : G.loc s = some L) (ho : o = L.base + (i * L.esz + k)) :
    VR G w (.rp s g i k) (.pointer (some ⟨L.blk, o, none⟩)) :=
  .rp _ _ _ _ _ rfl hg (fun L' hL' _ => by rw [hL] at hL'; obtain rfl := Option.some.inj hL'; rw [ho])

theorem fieldAddrAV_sound {σ : St} {t : TypeId} {x v : AV} {f : Nat} {u0 : Value} (hO : ∀ s ob, σ.own s = some ob → ∃ L, G.loc s = some L ∧ OwnOk G w L ob)
    (hx : VR G w x u0) (h : fieldAddrAV P σ t x f = some v) :
    ∃ u, (Instr.fieldAt t u0 f).run P w = .ok u w ∧ VR G w v u := by
  unfold fieldAddrAV fieldPlace? at h
  cases hu : P.underlying t with
  | none => simp [hu] at h
  | some dsc =>
    cases dsc with
    | struct fs =>
      simp only [hu] at h
      cases hf : fs[f]? with
      | none => simp [hf] at h
      | some fd =>
        simp only [hf, Option.map_some] at h
        split at h
        · cases h
        · rename_i hz
          have hi : ∃ i, P.info? fd.type = some i := by
            cases hi : P.info? fd.type with
            | none => simp [szOf, Program.cellsOf, hi] at hz
            | some i => exact ⟨i, rfl⟩
          obtain ⟨i, hi⟩ := hi
          have hplace : ∀ ad : Addr, (fieldPlace ad fd).run P w = .ok (ad.add fd.offset) w := by
            intro ad
            simp [fieldPlace, run_sizeOf' hi, hz]
          split at h
          · rename_i s g j k
            split at h
            · rename_i hl
              obtain rfl := Option.some.inj h
              obtain ⟨ob, L, _, hL, _, hg⟩ := live_loc hO hl
              obtain ⟨hgn, rfl⟩ := hx.rp_live hL hg
              refine ⟨_, by simp [Instr.fieldAt, run_underlying hu, hf, Instr.sureAddr, hplace]; rfl, ?_⟩
              rw [addr_add]
              exact VR.mk_rp hgn hL (by omega)
            · cases h
          · rename_i cs fr
            obtain rfl := Option.some.inj h
            cases hx with
            | d _ _ _ hrep =>
              cases hrep with
              | ptr _ ad us hc hr =>
                refine ⟨_, by simp [Instr.fieldAt, run_underlying hu, hf, Instr.sureAddr, hplace ad]; rfl, .d _ _ _ (.ptr _ _ (fun k => us (fd.offset + k)) (fun k d hk => ?_) (fun k d hk => ?_))⟩
                · rw [List.getElem?_drop] at hk
                  rw [add_add, block_add]
                  exact hc _ d hk
                · rw [List.getElem?_drop] at hk
                  exact hr _ d hk
          · cases h
    | _ => simp [hu] at h

end
end Go.Dv

/-
  DERIVED, MY OWN. EACH OPERATION WITHOUT EFFECT, HELD AGAINST THE MACHINE (second part).
-/

set_option autoImplicit false
namespace Go.Dv
open Go Go.RowKit

section
variable {P : Program} {G : Gh} {w : World}

theorem VR.agg_inv {cs : List AV} {u : Value} (h : VR G w (.agg cs) u) : ∃ vs, u = .agg vs ∧ vs.size = cs.length ∧
    (∀ (k : Nat) a, cs[k]? = some a → ∃ x, vs[k]? = some x ∧ x.oneCell' = true ∧ VR G w a x) := by
  cases h with
  | agg _ vs hs h1 hr =>
    refine ⟨vs, rfl, hs, fun k a ha => ?_⟩
    have hk : k < cs.length := (List.getElem?_eq_some_iff.1 ha).1
    have hk' : k < vs.size := by omega
    have := hr k a ha
    have h1' := h1 k hk
    rw [Array.getD_eq_getD_getElem?, Array.getElem?_eq_getElem hk', Option.getD_some] at this h1'
    exact ⟨vs[k], Array.getElem?_eq_getElem hk', h1', this⟩

theorem VR.mk_agg {cs : List AV} {vs : Array Value} (hs : vs.size = cs.length)
    (h : ∀ (k : Nat) a, cs[k]? = some a → ∃ x, vs[k]? = some x ∧ x.oneCell' = true ∧ VR G w a x) : VR G w (.agg cs) (.agg vs) := by
  refine .agg cs vs hs (fun k hk => ?_) (fun k a ha => ?_)
  · obtain ⟨x, hx, h1, _⟩ := h k cs[k] (List.getElem?_eq_getElem hk)
    simp [hx, h1]
  · obtain ⟨x, hx, _, hv⟩ := h k a ha
    simp [hx, hv]

/-- A part of an aggregate, by its type. -/
theorem part_sound {t : TypeId} {cs : List AV} {vs : Array Value} {off : Nat} {v : AV}
    (hr : ∀ (k : Nat) a, cs[k]? = some a → ∃ x, vs[k]? = some x ∧ x.oneCell' = true ∧ VR G w a x)
    (h : ofCells P t (window P t off cs) = some v) : ∃ u, (part t vs off).run P w = .ok u w ∧ VR G w v u := by
  unfold ofCells at h
  cases hb : aggO P t with
  | none => simp [hb] at h
  | some b =>
    obtain ⟨i, hi⟩ := info_of_agg hb
    cases b with
    | true =>
      simp only [hb] at h
      split at h
      · rename_i hl
        obtain rfl := Option.some.inj h
        have hwin : ∀ (k : Nat) a, (window P t off cs)[k]? = some a → k < szOf P t ∧ cs[off + k]? = some a := by
          intro k a ha
          unfold Dv.window at ha
          simp only [hb, if_true] at ha
          rw [List.getElem?_take] at ha
          split at ha
          · rw [List.getElem?_drop] at ha
            exact ⟨by assumption, ha⟩
          · cases ha
        refine ⟨.agg (vs.extract off (off + szOf P t)), by simp [part, run_isAgg' hb, run_sizeOf' hi], VR.mk_agg ?_ (fun k a ha => ?_)⟩
        · rw [hl]
          rcases Nat.eq_zero_or_pos (szOf P t) with hz | hz
          · simp [hz]; omega
          · have hlast := hwin (szOf P t - 1) _ (List.getElem?_eq_getElem (by omega))
            obtain ⟨x, hx, _⟩ := hr _ _ hlast.2
            have := (Array.getElem?_eq_some_iff.1 hx).1
            simp
            omega
        · obtain ⟨hk, hc⟩ := hwin k a ha
          obtain ⟨x, hx, h1, hv⟩ := hr _ _ hc
          refine ⟨x, ?_, h1, hv⟩
          rw [Array.getElem?_extract]
          have := (Array.getElem?_eq_some_iff.1 hx).1
          rw [if_pos (by omega)]
          exact hx
      · cases h
    | false =>
      simp only [hb] at h
      split at h
      · rename_i c hw
        obtain rfl := Option.some.inj h
        have hc : cs[off]? = some c := by
          have h0 : (window P t off cs)[0]? = some c := by rw [hw]; rfl
          unfold Dv.window at h0
          rw [if_neg (by simp [hb]), List.getElem?_take, if_pos (by omega), List.getElem?_drop] at h0
          exact h0
        obtain ⟨x, hx, h1, hv⟩ := hr _ _ hc
        exact ⟨x, by simp [part, run_isAgg' hb, hx], hv⟩
      · cases h

theorem fieldAV_sound {t : TypeId} {x v : AV} {f : Nat} {u0 : Value} (hx : VR G w x u0) (h : fieldAV P t x f = some v) :
    ∃ u, (Instr.field t u0 f).run P w = .ok u w ∧ VR G w v u := by
  unfold fieldAV fieldPlace? at h
  cases hu : P.underlying t with
  | none => simp [hu] at h
  | some dsc =>
    cases dsc with
    | struct fs =>
      simp only [hu] at h
      cases hf : fs[f]? with
      | none => simp [hf] at h
      | some fd =>
        simp only [hf, Option.map_some] at h
        split at h
        · rename_i cs
          obtain ⟨vs, rfl, hs, hr⟩ := hx.agg_inv
          obtain ⟨u, hrun, hv⟩ := part_sound hr h
          exact ⟨u, by simp [Instr.field, run_underlying hu, hf, asAgg, hrun], hv⟩
        · cases h
    | _ => simp [hu] at h

theorem VR.int_inv {k : IntKind} {n : Int} {fr : Bool} {u : Value} (h : VR G w (.d (.val (.int k n)) fr) u) : u = .int k n := by
  cases h with
  | d _ _ _ hrep => cases hrep; rfl

theorem VR.val_inv {v : Value} {fr : Bool} {u : Value} (h : VR G w (.d (.val v) fr) u) : u = v ∧ v.oneCell' = true := by
  cases h with
  | d _ _ _ hrep => cases hrep with | val _ h => exact ⟨rfl, h⟩

theorem VR.mk_val {v : Value} {fr : Bool} (h : v.oneCell' = true) : VR G w (.d (.val v) fr) v := .d _ _ _ (.val v h)

theorem info_of_sz {e : TypeId} (h : 0 < szOf P e) : ∃ inf, P.info? e = some inf := by
  cases hi : P.info? e with
  | none => simp [szOf, Program.cellsOf, hi] at h
  | some i => exact ⟨i, rfl⟩

theorem intOfAV_sound {x : AV} {u : Value} {i : Int} (hx : VR G w x u) (h : intOfAV x = some i) : ∃ k, u = .int k i := by
  unfold intOfAV at h
  split at h
  · rename_i k n fr
    obtain rfl := Option.some.inj h
    exact ⟨k, hx.int_inv⟩
  · cases h

theorem indexAddrAV_sound {σ : St} {t : TypeId} {x ix v : AV} {u0 u1 : Value} (hO : ∀ s ob, σ.own s = some ob → ∃ L, G.loc s = some L ∧ OwnOk G w L ob)
    (hx : VR G w x u0) (hix : VR G w ix u1) (h : indexAddrAV P σ t x ix = some v) :
    ∃ u, (Instr.indexAt t u0 u1).run P w = .ok u w ∧ VR G w v u := by
  unfold indexAddrAV at h
  split at h
  · cases h
  · rename_i i hi
    obtain ⟨k, rfl⟩ := intOfAV_sound hix hi
    split at h
    · rename_i h0
      split at h
      · rename_i n e hu
        split at h
        · rename_i hlt
          obtain ⟨hlt, hsz⟩ := hlt
          obtain ⟨inf, hinf⟩ := info_of_sz hsz
          split at h
          · rename_i s g j kk
            split at h
            · rename_i hl
              obtain rfl := Option.some.inj h
              obtain ⟨ob, L, _, hL, _, hg⟩ := live_loc hO hl
              obtain ⟨hgn, rfl⟩ := hx.rp_live hL hg
              refine ⟨_, by simp [Instr.indexAt, asIntOf, run_underlying hu, Instr.sureAddr, h0, hlt, run_sizeOf' hinf]; rfl, ?_⟩
              rw [addr_add]
              exact VR.mk_rp hgn hL (by omega)
            · cases h
          · rename_i cs fr
            obtain rfl := Option.some.inj h
            cases hx with
            | d _ _ _ hrep =>
              cases hrep with
              | ptr _ ad us hc hr =>
                refine ⟨_, by simp [Instr.indexAt, asIntOf, run_underlying hu, Instr.sureAddr, h0, hlt, run_sizeOf' hinf]; rfl, .d _ _ _ (.ptr _ _ (fun k => us (i.toNat * szOf P e + k)) (fun k d hk => ?_) (fun k d hk => ?_))⟩
                · rw [List.getElem?_drop] at hk
                  rw [add_add, block_add]
                  exact hc _ d hk
                · rw [List.getElem?_drop] at hk
                  exact hr _ d hk
          · cases h
        · cases h
      · rename_i e hu
        split at h
        · rename_i s g off len
          split at h
          · rename_i hlt
            split at h
            · rename_i ty esz g' app mt fr xs hs
              split at h
              · rename_i hge
                obtain ⟨rfl, hesz, hge3⟩ := hge
                obtain rfl := Option.some.inj h
                obtain ⟨L, hL, hok⟩ := hO s _ hs
                have hLe : L.esz = szOf P e := by rw [← hesz]; exact hok.2.1
                obtain ⟨hgn, ad, cap, rfl, hcap, had, hsize⟩ := hx.rs_live hL hok.gen_eq
                have hpos : 0 < cap := by omega
                obtain rfl := had hpos
                obtain ⟨inf, hinf⟩ := info_of_sz hge3
                refine ⟨_, by simp [Instr.indexAt, asIntOf, run_underlying hu, h0, hlt, run_sizeOf' hinf]; rfl, ?_⟩
                rw [addr_add]
                refine VR.mk_rp hgn hL ?_
                rw [hLe, Nat.add_mul]
                simp [Nat.add_assoc]
              · cases h
            · cases h
          · cases h
        · rename_i xs fr
          split at h
          · rename_i c hc
            split at h
            · rename_i hlen
              obtain rfl := Option.some.inj h
              obtain ⟨inf, hinf⟩ := info_of_sz hlen.2
              cases hx with
              | d _ _ _ hrep =>
                cases hrep with
                | slNil => simp at hc
                | sl _ ad sz cap us hsz hcap hcc hr =>
                  have hs : sz = szOf P e := by rw [← hlen.1]; exact (hsz _ c hc).symm
                  subst hs
                  have hlt : i < (xs.length : Int) := by
                    have := (List.getElem?_eq_some_iff.1 hc).1
                    omega
                  refine ⟨_, by simp [Instr.indexAt, asIntOf, run_underlying hu, h0, hlt, run_sizeOf' hinf]; rfl, .d _ _ _ (.ptr _ _ (fun k => us i.toNat k) (fun k d hk => ?_) (fun k d hk => ?_))⟩
                  · rw [add_add, block_add]
                    exact hcc _ c hc k d hk
                  · exact hr _ c hc k d hk
            · cases h
          · cases h
        · cases h
      · cases h
    · cases h

theorem indexAV_sound {t : TypeId} {x ix v : AV} {u0 u1 : Value} (hx : VR G w x u0) (hix : VR G w ix u1) (h : indexAV P t x ix = some v) :
    ∃ u, (Instr.index t u0 u1).run P w = .ok u w ∧ VR G w v u := by
  unfold indexAV at h
  split at h
  · cases h
  · rename_i i hi
    obtain ⟨k, rfl⟩ := intOfAV_sound hix hi
    split at h
    · rename_i h0
      split at h
      · rename_i n e cs hu
        split at h
        · rename_i hlt
          obtain ⟨vs, rfl, hs, hr⟩ := hx.agg_inv
          obtain ⟨u, hrun, hv⟩ := part_sound hr h
          have hinf : ∃ inf, P.info? e = some inf := by
            unfold ofCells at h
            cases hb : aggO P e with
            | none => simp [hb] at h
            | some b => exact info_of_agg hb
          obtain ⟨inf, hinf⟩ := hinf
          exact ⟨u, by simp [Instr.index, asIntOf, run_underlying hu, h0, hlt, run_sizeOf' hinf, hrun], hv⟩
        · cases h
      · rename_i s fr hu
        split at h
        · rename_i hlt
          obtain rfl := Option.some.inj h
          obtain ⟨rfl, _⟩ := hx.val_inv
          refine ⟨_, ?_, VR.mk_val rfl⟩
          simp [Instr.index, asIntOf, run_underlying hu, h0, hlt]
        · cases h
      · cases h
    · cases h

theorem sliceBounds_sound' {len cap c2 : Nat} {lo hi : Option AV} {vlo vhi : Option Value} {l hh : Nat} (b : Bool)
    (hlo : ∀ v, lo = some v → ∃ u, vlo = some u ∧ VR G w v u) (hlo' : lo = none → vlo = none)
    (hhi : ∀ v, hi = some v → ∃ u, vhi = some u ∧ VR G w v u) (hhi' : hi = none → vhi = none) (hlc : c2 ≤ cap)
    (h : boundsAV len c2 lo hi = some (l, hh)) : l ≤ hh ∧ hh ≤ c2 ∧
      (Instr.sliceBounds b len cap vlo vhi none).run P w = .ok (l, hh, cap) w := by
  unfold boundsAV at h
  split at h
  · cases h
  · rename_i h1 hh1
    split at h
    · rename_i hb1
      split at h
      · cases h
      · rename_i l1 hl1
        split at h
        · rename_i hb2
          obtain ⟨rfl, rfl⟩ := Prod.mk.inj (Option.some.inj h)
          refine ⟨by omega, by omega, ?_⟩
          have hhigh : (match vhi with
              | some v => Instr.sliceBound v cap (if b then .sliceAcap else .sliceAlen)
              | none => (pure len : Sem Nat)).run P w = .ok h1.toNat w := by
            cases hi with
            | none =>
              simp at hh1
              subst hh1
              rw [hhi' rfl]
              rfl
            | some v =>
              obtain ⟨u, rfl, hu⟩ := hhi v rfl
              simp at hh1
              obtain ⟨k, rfl⟩ := intOfAV_sound hu hh1
              have : 0 ≤ h1 ∧ h1 ≤ (cap : Int) := by omega
              simp [Instr.sliceBound, asIntOf, this]
          have hlow : (match vlo with
              | some v => Instr.sliceBound v h1.toNat .sliceB
              | none => (pure 0 : Sem Nat)).run P w = .ok l1.toNat w := by
            cases lo with
            | none =>
              simp at hl1
              subst hl1
              rw [hlo' rfl]
              rfl
            | some v =>
              obtain ⟨u, rfl, hu⟩ := hlo v rfl
              simp at hl1
              obtain ⟨k, rfl⟩ := intOfAV_sound hu hl1
              have : 0 ≤ l1 ∧ l1 ≤ max h1 0 := by omega
              simp [Instr.sliceBound, asIntOf, this]
          cases vhi <;> cases vlo <;> simp_all [Instr.sliceBounds]
        · cases h
    · cases h

theorem sliceBounds_sound {len cap : Nat} {lo hi : Option AV} {vlo vhi : Option Value} {l hh : Nat} (b : Bool)
    (hlo : ∀ v, lo = some v → ∃ u, vlo = some u ∧ VR G w v u) (hlo' : lo = none → vlo = none)
    (hhi : ∀ v, hi = some v → ∃ u, vhi = some u ∧ VR G w v u) (hhi' : hi = none → vhi = none) (hlc : len ≤ cap)
    (h : boundsAV len len lo hi = some (l, hh)) : l ≤ hh ∧ hh ≤ len ∧
      (Instr.sliceBounds b len cap vlo vhi none).run P w = .ok (l, hh, cap) w := sliceBounds_sound' b hlo hlo' hhi hhi' hlc h

end
end Go.Dv

/-
  DERIVED, MY OWN. EACH OPERATION WITHOUT EFFECT, HELD AGAINST THE MACHINE (third part).
-/


set_option autoImplicit false
namespace Go.Dv
open Go Go.RowKit

section
variable {P : Program} {G : Gh} {w : World}

theorem Rep.sl_window {F : Nat → Prop} {n : Bool} {xs : List (List Data)} {u : Value} {e : Nat} {l h : Nat} (hr : Rep F w (.sl n xs) u)
    (hall : ∀ c ∈ xs, c.length = e) (hl : l ≤ h) (hh : h ≤ xs.length) :
    ∃ base cap, u = .slice base xs.length cap ∧ xs.length ≤ cap ∧ Rep F w (.sl n ((xs.drop l).take (h - l))) (.slice (if cap = l then base else base.map (·.add (l * e))) (h - l) (cap - l)) := by
  cases hr with
  | slNil =>
    refine ⟨none, 0, rfl, Nat.le_refl _, ?_⟩
    have : l = 0 := by simp at hh; omega
    have : h = 0 := by simp at hh; omega
    subst l; subst h
    simp
    exact .slNil
  | sl _ ad sz cap us hsz hcap hc hr =>
    refine ⟨some ad, cap, rfl, hcap, ?_⟩
    have hlen : ((xs.drop l).take (h - l)).length = h - l := by simp; omega
    have hwin : ∀ (i : Nat) c, ((xs.drop l).take (h - l))[i]? = some c → xs[l + i]? = some c := by
      intro i c hi
      rw [List.getElem?_take] at hi
      split at hi
      · rw [List.getElem?_drop] at hi; exact hi
      · cases hi
    have key : ∀ ad' : Addr, (∀ i c, xs[l + i]? = some c → i < h - l → ∀ (k : Nat) d, c[k]? = some d → ad'.block = ad.block ∧ ad'.add (i * sz + k) = ad.add ((l + i) * sz + k)) →
        Rep F w (.sl false ((xs.drop l).take (h - l))) (.slice (some ad') (h - l) (cap - l)) := by
      intro ad' had
      have := Rep.sl (F := F) (w := w) ((xs.drop l).take (h - l)) ad' sz (cap - l) (fun i k => us (l + i) k) (fun i c hi => hsz _ c (hwin i c hi)) (by rw [hlen]; omega)
        (fun i c hi k d hk => by
          have hi' : i < h - l := by have := (List.getElem?_eq_some_iff.1 hi).1; omega
          obtain ⟨hb, he⟩ := had i c (hwin i c hi) hi' k d hk
          rw [hb, he]
          exact hc _ c (hwin i c hi) k d hk)
        (fun i c hi k d hk => hr _ c (hwin i c hi) k d hk)
      rwa [hlen] at this
    by_cases hcl : cap = l
    · rw [if_pos hcl]
      exact key ad (fun i c hi hlt => by omega)
    · rw [if_neg hcl]
      exact key (ad.add (l * e)) (fun i c hi hlt k d hk => by
        have he : sz = e := by
          rw [← hsz _ c hi]
          exact hall c (List.mem_of_getElem? hi)
        subst he
        exact ⟨block_add _ _, by rw [add_add, Nat.add_mul]; simp [Nat.add_assoc]⟩)

theorem VR.rc_live {s g off len cap : Nat} {v : Value} {L : Loc} (h : VR G w (.rc s g off len cap) v) (hL : G.loc s = some L) (hg : L.gen = g) :
    G.U s g ∧ ∃ ad, v = .slice (some ad) len cap ∧ len ≤ cap ∧
        (0 < cap → ad = ⟨L.blk, L.base + off * L.esz, none⟩) ∧ L.base + (off + cap) * L.esz ≤ L.size := by
  cases h with
  | rc _ _ _ _ _ _ h1 hgn hv => exact ⟨hgn, hv L hL hg⟩

theorem VR.deRc {x : AV} {u : Value} (h : VR G w x u) : VR G w (deRc x) u := by
  cases x with
  | rc s g off len cap =>
    cases h with
    | rc _ _ _ _ _ _ h1 hgn hv => exact .rs _ _ _ _ _ h1 hgn fun L hL hg => let ⟨ad, e1, e2, e3, e4⟩ := hv L hL hg; ⟨ad, cap, e1, e2, e3, e4⟩
  | _ => exact h

theorem sliceAV_sound {σ : St} {t : TypeId} {x v : AV} {lo hi : Option AV} {u0 : Value} {vlo vhi : Option Value}
    (hO : ∀ s ob, σ.own s = some ob → ∃ L, G.loc s = some L ∧ OwnOk G w L ob) (hx : VR G w x u0)
    (hlo : ∀ v, lo = some v → ∃ u, vlo = some u ∧ VR G w v u) (hlo' : lo = none → vlo = none)
    (hhi : ∀ v, hi = some v → ∃ u, vhi = some u ∧ VR G w v u) (hhi' : hi = none → vhi = none)
    (h : sliceAV P σ t x lo hi = some v) :
    ∃ u, (Instr.sliceAt t u0 vlo vhi none).run P w = .ok u w ∧ VR G w v u := by
  unfold sliceAV at h
  split at h
  · rename_i hu
    split at h
    · rename_i s fr
      obtain ⟨rfl, _⟩ := hx.val_inv
      cases hb : boundsAV s.size s.size lo hi with
      | none => simp [hb] at h
      | some lh =>
        obtain ⟨l, hh⟩ := lh
        simp [hb] at h
        subst h
        obtain ⟨_, _, hrun⟩ := sliceBounds_sound (P := P) false hlo hlo' hhi hhi' (Nat.le_refl _) hb
        exact ⟨_, by simp [Instr.sliceAt, Instr.slice, run_underlying hu, hrun], VR.mk_val rfl⟩
    · cases h
  · rename_i e hu
    split at h
    · rename_i n xs fr
      cases hb : boundsAV xs.length xs.length lo hi with
      | none => simp [hb] at h
      | some lh =>
        obtain ⟨l, hh⟩ := lh
        simp only [hb, Option.bind_some] at h
        split at h
        · rename_i hall
          obtain ⟨hall, hsz⟩ := hall
          obtain rfl := Option.some.inj h
          obtain ⟨inf, hinf⟩ := info_of_sz hsz
          cases hx with
          | d _ _ _ hrep =>
            have hall' : ∀ c ∈ xs, c.length = szOf P e := fun c hc => by simpa using List.all_eq_true.1 hall c hc
            have hle : l ≤ hh ∧ hh ≤ xs.length := by
              have := sliceBounds_sound (P := P) (cap := xs.length) true hlo hlo' hhi hhi' (Nat.le_refl _) hb
              exact ⟨this.1, this.2.1⟩
            obtain ⟨base, cap, rfl, hcap, hrep'⟩ := hrep.sl_window hall' hle.1 hle.2
            obtain ⟨_, _, hrun⟩ := sliceBounds_sound (P := P) true hlo hlo' hhi hhi' hcap hb
            exact ⟨_, by simp [Instr.sliceAt, Instr.slice, run_underlying hu, hrun, run_sizeOf' hinf], .d _ _ _ hrep'⟩
        · cases h
    · rename_i s g off len
      split at h
      · rename_i ty esz g' app mt fr xs hs
        split at h
        · rename_i hge
          obtain ⟨rfl, hesz, hsz⟩ := hge
          obtain ⟨inf, hinf⟩ := info_of_sz hsz
          cases hb : boundsAV len len lo hi with
          | none => simp [hb] at h
          | some lh =>
            obtain ⟨l, hh⟩ := lh
            simp [hb] at h
            subst h
            obtain ⟨L, hL, hok⟩ := hO s _ hs
            have hLe : L.esz = szOf P e := by rw [← hesz]; exact hok.2.1
            obtain ⟨hgn, ad, cap, rfl, hcap, had, hsize⟩ := hx.rs_live hL hok.gen_eq
            obtain ⟨h1, h2, hrun⟩ := sliceBounds_sound (P := P) true hlo hlo' hhi hhi' hcap hb
            refine ⟨_, by simp [Instr.sliceAt, Instr.slice, run_underlying hu, hrun, run_sizeOf' hinf]; rfl, .rs _ _ _ _ _ ?_ hgn (fun L' hL' _ => ?_)⟩
            · split <;> rfl
            · rw [hL] at hL'
              obtain rfl := Option.some.inj hL'
              by_cases hcl : cap = l
              · rw [if_pos hcl]
                refine ⟨ad, cap - l, rfl, by omega, fun hp => by omega, ?_⟩
                have e1 : off + l + (cap - l) = off + cap := by omega
                rw [e1]
                exact hsize
              · rw [if_neg hcl]
                refine ⟨ad.add (l * szOf P e), cap - l, rfl, by omega, fun hp => ?_, ?_⟩
                · rw [had (by omega), addr_add, hLe, Nat.add_mul, Nat.add_assoc]
                · have e1 : off + l + (cap - l) = off + cap := by omega
                  rw [e1]
                  exact hsize
        · cases h
      · cases h
    · rename_i s g off len cap0
      split at h
      · rename_i ty esz g' app mt fr xs hs
        split at h
        · rename_i hge
          obtain ⟨rfl, hesz, hsz⟩ := hge
          obtain ⟨inf, hinf⟩ := info_of_sz hsz
          cases hb : boundsAV len cap0 lo hi with
          | none => simp [hb] at h
          | some lh =>
            obtain ⟨l, hh⟩ := lh
            simp [hb] at h
            subst h
            obtain ⟨L, hL, hok⟩ := hO s _ hs
            have hLe : L.esz = szOf P e := by rw [← hesz]; exact hok.2.1
            obtain ⟨hgn, ad, rfl, hcap, had, hsize⟩ := hx.rc_live hL hok.gen_eq
            obtain ⟨h1, h2, hrun⟩ := sliceBounds_sound' (P := P) true hlo hlo' hhi hhi' (Nat.le_refl _) hb
            refine ⟨_, by simp [Instr.sliceAt, Instr.slice, run_underlying hu, hrun, run_sizeOf' hinf]; rfl, .rc _ _ _ _ _ _ ?_ hgn (fun L' hL' _ => ?_)⟩
            · split <;> rfl
            · rw [hL] at hL'
              obtain rfl := Option.some.inj hL'
              by_cases hcl : cap0 = l
              · rw [if_pos hcl]
                refine ⟨ad, rfl, by omega, fun hp => by omega, ?_⟩
                have e1 : off + l + (cap0 - l) = off + cap0 := by omega
                rw [e1]
                exact hsize
              · rw [if_neg hcl]
                refine ⟨ad.add (l * szOf P e), rfl, by omega, fun hp => ?_, ?_⟩
                · rw [had (by omega), addr_add, hLe, Nat.add_mul, Nat.add_assoc]
                · have e1 : off + l + (cap0 - l) = off + cap0 := by omega
                  rw [e1]
                  exact hsize
        · cases h
      · cases h
    · cases h
  · cases h

theorem capAV_sound {σ : St} {t ty : TypeId} {x v : AV} {u0 : Value} (hO : ∀ s ob, σ.own s = some ob → ∃ L, G.loc s = some L ∧ OwnOk G w L ob) (hx : VR G w x u0)
    (h : capAV P σ t x = some v) : ∃ u, (Builtin.cap_ #[t] ty #[u0]).run P w = .ok u w ∧ VR G w v u := by
  unfold capAV at h
  split at h
  · rename_i e s g off len cap hu
    split at h
    · rename_i hl
      obtain rfl := Option.some.inj h
      obtain ⟨ob, L, _, hL, _, hg⟩ := live_loc hO hl
      obtain ⟨hgn, ad, rfl, _⟩ := hx.rc_live hL hg
      exact ⟨_, by simp [Builtin.cap_, run_underlying hu]; rfl, VR.mk_val rfl⟩
    · cases h
  · cases h

theorem lenAV_sound {σ : St} {t ty : TypeId} {x v : AV} {u0 : Value} (hO : ∀ s ob, σ.own s = some ob → ∃ L, G.loc s = some L ∧ OwnOk G w L ob) (hx : VR G w x u0)
    (h : lenAV P σ t x = some v) : ∃ u, (Builtin.len_ #[t] ty #[u0]).run P w = .ok u w ∧ VR G w v u := by
  unfold lenAV at h
  split at h
  · rename_i s fr hu
    obtain rfl := Option.some.inj h
    obtain ⟨rfl, _⟩ := hx.val_inv
    exact ⟨_, by simp [Builtin.len_, run_underlying hu]; rfl, VR.mk_val rfl⟩
  · rename_i e n xs fr hu
    obtain rfl := Option.some.inj h
    cases hx with
    | d _ _ _ hrep =>
      cases hrep with
      | slNil => exact ⟨_, by simp [Builtin.len_, run_underlying hu]; rfl, VR.mk_val rfl⟩
      | sl _ ad sz cap us hsz hcap hc hr => exact ⟨_, by simp [Builtin.len_, run_underlying hu]; rfl, VR.mk_val rfl⟩
  · rename_i e s g off len hu
    split at h
    · rename_i hl
      obtain rfl := Option.some.inj h
      obtain ⟨ob, L, _, hL, _, hg⟩ := live_loc hO hl
      obtain ⟨hgn, ad, cap, rfl, _⟩ := hx.rs_live hL hg
      exact ⟨_, by simp [Builtin.len_, run_underlying hu]; rfl, VR.mk_val rfl⟩
    · cases h
  · rename_i e s g off len cap hu
    split at h
    · rename_i hl
      obtain rfl := Option.some.inj h
      obtain ⟨ob, L, _, hL, _, hg⟩ := live_loc hO hl
      obtain ⟨hgn, ad, rfl, _⟩ := hx.rc_live hL hg
      exact ⟨_, by simp [Builtin.len_, run_underlying hu]; rfl, VR.mk_val rfl⟩
    · cases h
  · rename_i n e hu
    obtain rfl := Option.some.inj h
    refine ⟨_, ?_, VR.mk_val rfl⟩
    · simp [Builtin.len_, run_underlying hu]
      rfl
  · cases h

theorem extractAV_sound {x v : AV} {i : Nat} {u0 : Value} (hx : VR G w x u0) (h : extractAV x i = some v) :
    ∃ u, (Instr.extract u0 i).run P w = .ok u w ∧ VR G w v u := by
  unfold extractAV at h
  split at h
  · rename_i vs
    cases hx with
    | tup _ us hs hr =>
      have hi : i < us.size := by have := (List.getElem?_eq_some_iff.1 h).1; omega
      have := hr i v h
      rw [Array.getD_eq_getD_getElem?, Array.getElem?_eq_getElem hi, Option.getD_some] at this
      exact ⟨us[i], by simp [Instr.extract, hi], this⟩
  · cases h

theorem makeIfcAV_sound {t : TypeId} {x v : AV} {u0 : Value} (hx : VR G w x u0) (h : makeIfcAV P t x = some v) :
    ∃ u, (Instr.makeInterface t u0).run P w = .ok u w ∧ VR G w v u := by
  unfold makeIfcAV at h
  split at h
  · cases h
  · rename_i hni
    split at h
    · cases h
    · rename_i hsome
      cases hu : P.underlying t with
      | none => simp [hu] at hsome
      | some d =>
        have hrun : (Instr.makeInterface t u0).run P w = .ok (.iface t u0) w := by
          unfold isIfcT at hni
          cases d <;> simp [hu] at hni <;> simp [Instr.makeInterface, run_underlying hu]
        refine ⟨_, hrun, ?_⟩
        split at h
        · rename_i x fr
          obtain rfl := Option.some.inj h
          cases hx with
          | d _ _ _ hrep => exact .d _ _ _ (.ifc _ _ _ hrep)
        · split at h
          · obtain rfl := Option.some.inj h
            exact .ifc _ _ _ hx
          · cases h

theorem convAV_sound {src dst : TypeId} {x v : AV} {u0 : Value} (hx : VR G w x u0) (h : convAV P src dst x = some v) :
    ∃ u, (convert src dst u0).run P w = .ok u w ∧ VR G w v u := by
  unfold convAV at h
  split at h
  · rename_i k1 k k2 n fr hs hd
    obtain rfl := Option.some.inj h
    obtain ⟨rfl, _⟩ := hx.val_inv
    exact ⟨_, by simp [convert, run_underlying hs, run_underlying hd, Conv.intToInt], VR.mk_val rfl⟩
  · rename_i s fr hs hd
    obtain rfl := Option.some.inj h
    obtain ⟨rfl, _⟩ := hx.val_inv
    exact ⟨_, by simp [convert, run_underlying hs, run_underlying hd], VR.mk_val rfl⟩
  · cases h

theorem unAV_sound {op : UnOp} {x v : AV} {u0 : Value} (hx : VR G w x u0) (h : unAV op x = some v) :
    ∃ u, (Op.unary op u0).run P w = .ok u w ∧ VR G w v u := by
  unfold unAV at h
  split at h
  · obtain rfl := Option.some.inj h
    obtain ⟨rfl, _⟩ := hx.val_inv
    exact ⟨_, rfl, VR.mk_val rfl⟩
  · obtain rfl := Option.some.inj h
    obtain ⟨rfl, _⟩ := hx.val_inv
    exact ⟨_, rfl, VR.mk_val rfl⟩
  · obtain rfl := Option.some.inj h
    obtain ⟨rfl, _⟩ := hx.val_inv
    exact ⟨_, rfl, VR.mk_val rfl⟩
  · cases h

theorem minmaxAV_sound {b : Bool} {x y v : AV} {u0 u1 : Value} (hx : VR G w x u0) (hy : VR G w y u1) (h : minmaxAV b x y = some v) :
    ∃ u, (if b then Builtin.max2 u0 u1 else Builtin.min2 u0 u1).run P w = .ok u w ∧ VR G w v u := by
  unfold minmaxAV at h
  split at h
  · rename_i k a _ k' b' _
    obtain rfl := Option.some.inj h
    obtain ⟨rfl, _⟩ := hx.val_inv
    obtain ⟨rfl, _⟩ := hy.val_inv
    cases b with
    | true =>
      refine ⟨_, rfl, ?_⟩
      have : (if b' > a then b' else a) = max a b' := by omega
      rw [this]
      exact VR.mk_val rfl
    | false =>
      refine ⟨_, rfl, ?_⟩
      have : (if b' < a then b' else a) = min a b' := by omega
      rw [this]
      exact VR.mk_val rfl
  · cases h

end
end Go.Dv

/-
  DERIVED, MY OWN. EACH OPERATION WITHOUT EFFECT, HELD AGAINST THE MACHINE (fourth part).
-/

set_option autoImplicit false
namespace Go.Dv
open Go Go.RowKit

section
variable {P : Program} {G : Gh} {w : World}

theorem eqGuard_skip {op : BinOp} {t : TypeId} {x y : Operand} {a b : Value} (h1 : a ≠ .nilIface ∨ b ≠ .nilIface) (h2 : (∀ c, a ≠ .agg c) ∨ ∀ c, b ≠ .agg c) :
    (eqGuard op t x y a b).run P w = .ok () w := by
  unfold eqGuard
  cases op <;> simp <;> (split <;> simp_all)

theorem binInt_sound {op : BinOp} {t : TypeId} {k : IntKind} {a b : Int} {v : Value} (hs : isShift op = false) (h : binInt op k a b = some v) :
    (binOp op t (.int k a) (.int k b)).run P w = .ok v w ∧ v.oneCell' = true := by
  unfold binInt at h
  cases op <;> simp [isShift] at hs <;> simp at h <;>
    first
    | (subst h; refine ⟨?_, rfl⟩; simp [binOp, Op.intArith, Op.intBits, Op.intCmp]; done)
    | (subst h; refine ⟨?_, rfl⟩; simp [binOp, Op.intCmp, BEq.beq, bne]; done)
    | (obtain ⟨hb, rfl⟩ := h; refine ⟨?_, rfl⟩; simp [binOp, Op.intDiv, hb]; done)

theorem binShift_sound {op : BinOp} {t : TypeId} {k k' : IntKind} {a b : Int} {v : Value} (h : binShift op k a b = some v) :
    (binOp op t (.int k a) (.int k' b)).run P w = .ok v w ∧ v.oneCell' = true := by
  unfold binShift at h
  split at h
  · cases h
  · rename_i hb
    cases op <;> simp at h <;> (subst h; refine ⟨?_, rfl⟩; simp [binOp, Op.shift, hb])

theorem binStr_sound {op : BinOp} {t : TypeId} {a b : ByteArray} {v : Value} (h : binStr op a b = some v) :
    (binOp op t (.string a) (.string b)).run P w = .ok v w ∧ v.oneCell' = true := by
  unfold binStr at h
  cases op <;> simp at h <;>
    first
    | (subst h; refine ⟨?_, rfl⟩; simp [binOp, Op.stringOp]; done)
    | (obtain ⟨hb, rfl⟩ := h; refine ⟨?_, rfl⟩; have hm : IntKind.i64.max = 9223372036854775807 := rfl
       simp only [binOp, Op.stringOp, hm]; rw [if_neg (by omega)]; rfl)

theorem equal_of {t : TypeId} {a b : Value} {r : Bool} (h : ∀ d, (Op.equalIn (d + 1) t a b).run P w = .ok r w) : (Op.equal t a b).run P w = .ok r w := h 9999

theorem binEq {o : BinOp} {t : TypeId} {a b : Value} {r : Bool} (ho : (o = .eql ∧ r = true) ∨ (o = .neq ∧ r = false)) {q : Bool}
    (hb : ∀ o, (o = .eql ∨ o = .neq) → binOp o t a b = (if o = .eql then do pure (.bool (← Op.equal t a b)) else do pure (.bool (!(← Op.equal t a b)))))
    (he : (Op.equal t a b).run P w = .ok q w) : (binOp o t a b).run P w = .ok (.bool (q == r)) w := by
  rcases ho with ⟨rfl, rfl⟩ | ⟨rfl, rfl⟩
  · rw [hb _ (.inl rfl)]; simp [he]
  · rw [hb _ (.inr rfl)]; simp [he]

theorem binVal_sound {op : BinOp} {t : TypeId} {x y : Operand} {a b v : Value} (h : binVal P op t a b = some v) :
    (do eqGuard op t x y a b; binOp op t a b : Sem Value).run P w = .ok v w ∧ v.oneCell' = true := by
  unfold binVal at h
  split at h
  · rename_i k a k' b
    have hg := eqGuard_skip (P := P) (w := w) (op := op) (t := t) (x := x) (y := y) (a := .int k a) (b := .int k' b) (.inl (by simp)) (.inl (by simp))
    simp only [Sem.run_bind, hg, Result.andThen_ok]
    split at h
    · exact binShift_sound h
    · rename_i hs
      split at h
      · rename_i hk
        subst hk
        exact binInt_sound (by simpa using hs) h
      · cases h
  · rename_i a b
    have hg := eqGuard_skip (P := P) (w := w) (op := op) (t := t) (x := x) (y := y) (a := .string a) (b := .string b) (.inl (by simp)) (.inl (by simp))
    simp only [Sem.run_bind, hg, Result.andThen_ok]
    split at h
    · cases h
    · exact binStr_sound h
  · rename_i a b
    have hg := eqGuard_skip (P := P) (w := w) (op := op) (t := t) (x := x) (y := y) (a := .bool a) (b := .bool b) (.inl (by simp)) (.inl (by simp))
    simp only [Sem.run_bind, hg, Result.andThen_ok]
    split at h
    · rename_i hu
      have he : (Op.equal t (.bool a) (.bool b)).run P w = .ok (a == b) w := equal_of fun d => by simp [Op.equalIn, run_underlying hu]
      cases op <;> simp at h
      · subst h; exact ⟨by rw [binEq (.inl ⟨rfl, rfl⟩) (fun o ho => by rcases ho with rfl | rfl <;> rfl) he]; simp, rfl⟩
      · subst h; exact ⟨by rw [binEq (.inr ⟨rfl, rfl⟩) (fun o ho => by rcases ho with rfl | rfl <;> rfl) he]; simp, rfl⟩
    · cases h
  · have hg := eqGuard_skip (P := P) (w := w) (op := op) (t := t) (x := x) (y := y) (a := .pointer none) (b := .pointer none) (.inl (by simp)) (.inl (by simp))
    simp only [Sem.run_bind, hg, Result.andThen_ok]
    split at h
    · rename_i e hu
      have he : (Op.equal t (.pointer none) (.pointer none)).run P w = .ok true w := equal_of fun d => by simp [Op.equalIn, run_underlying hu]
      cases op <;> simp at h
      · subst h; exact ⟨by rw [binEq (.inl ⟨rfl, rfl⟩) (fun o ho => by rcases ho with rfl | rfl <;> rfl) he]; simp, rfl⟩
      · subst h; exact ⟨by rw [binEq (.inr ⟨rfl, rfl⟩) (fun o ho => by rcases ho with rfl | rfl <;> rfl) he]; simp, rfl⟩
    · cases h
  · cases h

theorem eqRes_sound {op : BinOp} {t : TypeId} {a b : Value} {r : Bool} {v : AV} (h : eqRes op r = some v)
    (hb : ∀ o, (o = .eql ∨ o = .neq) → binOp o t a b = (if o = .eql then do pure (.bool (← Op.equal t a b)) else do pure (.bool (!(← Op.equal t a b)))))
    (he : (Op.equal t a b).run P w = .ok r w) : ∃ u, (binOp op t a b).run P w = .ok u w ∧ VR G w v u := by
  unfold eqRes at h
  cases op <;> simp at h <;> subst h
  · rw [hb _ (.inl rfl)]
    exact ⟨_, by simp [he], VR.mk_val rfl⟩
  · rw [hb _ (.inr rfl)]
    exact ⟨_, by simp [he], VR.mk_val rfl⟩

theorem eqVal_sound {t : TypeId} {a b : Value} {r : Bool} (h : eqVal P t a b = some r) (d : Nat) (cs : Array Value) (off : Nat) :
    (Op.equalIn (d + 1) t a b).run P w = .ok r w ∧ (cs[off]? = some a → (part t cs off).run P w = .ok a w) ∧ (cs[off]? = some b → (part t cs off).run P w = .ok b w) := by
  have hp : ∀ v, P.underlying t = some (.int .i64) ∨ (∃ k, P.underlying t = some (.int k)) ∨ P.underlying t = some .bool ∨ P.underlying t = some .string → cs[off]? = some v → (part t cs off).run P w = .ok v w := by
    intro v hu hv
    have : (isAgg t).run P w = .ok false w := by
      rcases hu with hu | ⟨k, hu⟩ | hu | hu <;> simp [isAgg, run_underlying hu]
    simp [part, this, hv]
  unfold eqVal at h
  split at h
  · rename_i k0 k x k' y hu
    split at h
    · rename_i hk
      subst hk
      obtain rfl := Option.some.inj h
      refine ⟨?_, hp _ (.inr (.inl ⟨_, hu⟩)), hp _ (.inr (.inl ⟨_, hu⟩))⟩
      rw [run_equalIn_int w d t k k0 x y hu]
      simp [BEq.beq]
    · cases h
  · rename_i x y hu
    obtain rfl := Option.some.inj h
    exact ⟨run_equalIn_bool w d t x y hu, hp _ (.inr (.inr (.inl hu))), hp _ (.inr (.inr (.inl hu)))⟩
  · rename_i x y hu
    obtain rfl := Option.some.inj h
    exact ⟨run_equalIn_string w d t x y hu, hp _ (.inr (.inr (.inr hu))), hp _ (.inr (.inr (.inr hu)))⟩
  · cases h

theorem eqFs_sound {xs ys : List AV} {us vs : Array Value} (hx : ∀ (k : Nat) a, xs[k]? = some a → ∃ u, us[k]? = some u ∧ VR G w a u) (hy : ∀ (k : Nat) a, ys[k]? = some a → ∃ u, vs[k]? = some u ∧ VR G w a u) (d : Nat) :
    ∀ (fs : List Field) (r : Bool), (fs.all fun f => f.name != "_") = true → eqFs P xs ys (fs.map fun f => (f.type, f.offset)) = some r → (Op.eqFields (d + 1) us vs fs).run P w = .ok r w
  | [], r, _, h => by simp [eqFs] at h; subst h; rfl
  | f :: fs, r, hall, h => by
    simp only [List.all_cons, Bool.and_eq_true] at hall
    obtain ⟨hn, hall⟩ := hall
    have hn : f.name ≠ "_" := by simpa using hn
    simp only [List.map_cons, eqFs] at h
    · split at h
      · rename_i a fa b fb ha hb
        split at h
        · rename_i r1 r2 e1 e2
          obtain rfl := Option.some.inj h
          obtain ⟨u, hu, hvu⟩ := hx _ _ ha
          obtain ⟨v, hv, hvv⟩ := hy _ _ hb
          obtain ⟨rfl, _⟩ := hvu.val_inv
          obtain ⟨rfl, _⟩ := hvv.val_inv
          obtain ⟨q1, q2, _⟩ := eqVal_sound (w := w) e1 d us f.offset
          obtain ⟨_, _, q3⟩ := eqVal_sound (w := w) e1 d vs f.offset
          have hrec := eqFs_sound hx hy d fs r2 hall e2
          simp only [Op.eqFields]
          rw [if_pos hn]
          simp only [Sem.run_bind, q2 hu, q3 hv, q1, Result.andThen_ok]
          cases r1 with
          | true => simpa using hrec
          | false => simp
        · cases h
      · cases h

theorem eqAgg_sound {t : TypeId} {xs ys : List AV} {u v : Value} {b : Bool} {op : BinOp} {x y : Operand} {r : AV} (hx : VR G w (.agg xs) u) (hy : VR G w (.agg ys) v) (h : eqAgg P t xs ys = some b) (hr : eqRes op b = some r) :
    ∃ z, (do eqGuard op t x y u v; binOp op t u v : Sem Value).run P w = .ok z w ∧ VR G w r z := by
  unfold eqAgg at h
  split at h
  · rename_i l hl
    unfold eqFields? at hl
    split at hl
    · rename_i fs ht
      split at hl
      · rename_i hc
        obtain rfl := Option.some.inj hl
        obtain ⟨us, rfl, hs, hu⟩ := hx.agg_inv
        obtain ⟨vs, rfl, hs', hv⟩ := hy.agg_inv
        have hf : P.fieldsOf t = fs := by simp [Program.fieldsOf, ht]
        have he : (Op.equalIn 10000 t (.agg us) (.agg vs)).run P w = .ok b w := by
          rw [run_equalIn_struct w 9999 t us vs (by rw [hf]; exact ht) hc.1, hf]
          exact eqFs_sound (fun k a ha => let ⟨u, h1, _, h2⟩ := hu k a ha; ⟨u, h1, h2⟩) (fun k a ha => let ⟨u, h1, _, h2⟩ := hv k a ha; ⟨u, h1, h2⟩) 9998 fs.toList b hc.2.2 h
        simp only [Sem.run_bind, run_eqGuard_agg w op t x y us vs hc.2.1, Result.andThen_ok]
        unfold eqRes at hr
        cases op <;> simp at hr <;> subst hr
        · exact ⟨_, by rw [run_eql_struct, he]; rfl, VR.mk_val rfl⟩
        · exact ⟨_, by rw [run_neq_struct, he]; rfl, VR.mk_val rfl⟩
      · cases hl
    · cases hl
  · cases h

theorem binAV_sound {σ : St} {op : BinOp} {t : TypeId} {ox oy : Operand} {x y v : AV} {u0 u1 : Value}
    (hO : ∀ s ob, σ.own s = some ob → ∃ L, G.loc s = some L ∧ OwnOk G w L ob) (hx : VR G w x u0) (hy : VR G w y u1)
    (h : binAV P σ op t x y = some v) :
    ∃ u, (do eqGuard op t ox oy u0 u1; binOp op t u0 u1 : Sem Value).run P w = .ok u w ∧ VR G w v u := by
  unfold binAV at h
  split at h
  · rename_i a fa b fb
    cases hb : binVal P op t a b with
    | none => simp [hb] at h
    | some r =>
      simp [hb] at h
      subst h
      obtain ⟨rfl, _⟩ := hx.val_inv
      obtain ⟨rfl, _⟩ := hy.val_inv
      obtain ⟨hrun, h1⟩ := binVal_sound (w := w) (x := ox) (y := oy) hb
      exact ⟨_, hrun, VR.mk_val h1⟩
  · rename_i n xs fr fr'
    split at h
    · rename_i hst
      have hu : ∃ e, P.underlying t = some (.slice e) := by
        unfold isSliceT at hst
        split at hst
        · rename_i e hu; exact ⟨e, hu⟩
        · simp at hst
      obtain ⟨e, hu⟩ := hu
      have hy' : u1 = .slice none 0 0 := by cases hy with | d _ _ _ hr => cases hr; rfl
      subst hy'
      have hx' : ∃ b l c, u0 = .slice b l c ∧ b.isNone = n := by
        cases hx with
        | d _ _ _ hr => cases hr with
          | slNil => exact ⟨none, 0, 0, rfl, rfl⟩
          | sl _ ad sz cap us _ _ _ _ => exact ⟨some ad, _, _, rfl, rfl⟩
      obtain ⟨b, l, c, rfl, hbn⟩ := hx'
      have hg := eqGuard_skip (P := P) (w := w) (op := op) (t := t) (x := ox) (y := oy) (a := .slice b l c) (b := .slice none 0 0) (.inl (by simp)) (.inl (by simp))
      simp only [Sem.run_bind, hg, Result.andThen_ok]
      refine eqRes_sound h (fun o ho => by rcases ho with rfl | rfl <;> rfl) ?_
      subst hbn
      exact equal_of fun d => by cases b <;> simp [Op.equalIn, run_underlying hu]
    · cases h
  · rename_i s g off len fr'
    split at h
    · rename_i hst
      obtain ⟨hst, hl⟩ := hst
      have hu : ∃ e, P.underlying t = some (.slice e) := by
        unfold isSliceT at hst
        split at hst
        · rename_i e hu; exact ⟨e, hu⟩
        · simp at hst
      obtain ⟨e, hu⟩ := hu
      have hy' : u1 = .slice none 0 0 := by cases hy with | d _ _ _ hr => cases hr; rfl
      subst hy'
      obtain ⟨ob, L, _, hL, _, hgn⟩ := live_loc hO hl
      obtain ⟨_, ad, cap, rfl, _⟩ := hx.rs_live hL hgn
      have hg := eqGuard_skip (P := P) (w := w) (op := op) (t := t) (x := ox) (y := oy) (a := .slice (some ad) len cap) (b := .slice none 0 0) (.inl (by simp)) (.inl (by simp))
      simp only [Sem.run_bind, hg, Result.andThen_ok]
      refine eqRes_sound h (fun o ho => by rcases ho with rfl | rfl <;> rfl) ?_
      exact equal_of fun d => by simp [Op.equalIn, run_underlying hu]
    · cases h
  · rename_i s g off len fr'
    split at h
    · rename_i hst
      obtain ⟨hst, hl⟩ := hst
      have hu : ∃ e, P.underlying t = some (.pointer e) := by
        unfold isPtrT at hst
        split at hst
        · rename_i e hu; exact ⟨e, hu⟩
        · simp at hst
      obtain ⟨e, hu⟩ := hu
      obtain ⟨rfl, _⟩ := hy.val_inv
      obtain ⟨ob, L, _, hL, _, hgn⟩ := live_loc hO hl
      obtain ⟨_, rfl⟩ := hx.rp_live hL hgn
      have hg := eqGuard_skip (P := P) (w := w) (op := op) (t := t) (x := ox) (y := oy) (a := .pointer (some ⟨L.blk, L.base + (off * L.esz + len), none⟩)) (b := .pointer none) (.inl (by simp)) (.inl (by simp))
      simp only [Sem.run_bind, hg, Result.andThen_ok]
      refine eqRes_sound h (fun o ho => by rcases ho with rfl | rfl <;> rfl) ?_
      exact equal_of fun d => by simp [Op.equalIn, run_underlying hu]
    · cases h
  · rename_i cs fr fr'
    split at h
    · rename_i hst
      have hu : ∃ e, P.underlying t = some (.pointer e) := by
        unfold isPtrT at hst
        split at hst
        · rename_i e hu; exact ⟨e, hu⟩
        · simp at hst
      obtain ⟨e, hu⟩ := hu
      obtain ⟨rfl, _⟩ := hy.val_inv
      have hx' : ∃ ad, u0 = .pointer (some ad) := by
        cases hx with
        | d _ _ _ hr => cases hr with
          | ptr _ ad us _ _ => exact ⟨ad, rfl⟩
      obtain ⟨ad, rfl⟩ := hx'
      have hg := eqGuard_skip (P := P) (w := w) (op := op) (t := t) (x := ox) (y := oy) (a := .pointer (some ad)) (b := .pointer none) (.inl (by simp)) (.inl (by simp))
      simp only [Sem.run_bind, hg, Result.andThen_ok]
      refine eqRes_sound h (fun o ho => by rcases ho with rfl | rfl <;> rfl) ?_
      exact equal_of fun d => by simp [Op.equalIn, run_underlying hu]
    · cases h
  · rename_i t' x' fr fr'
    split at h
    · rename_i hst
      have hu : ∃ e, P.underlying t = some (.interface e) := by
        unfold isIfcT at hst
        split at hst
        · rename_i e hu; exact ⟨e, hu⟩
        · simp at hst
      obtain ⟨e, hu⟩ := hu
      obtain ⟨rfl, _⟩ := hy.val_inv
      have hx' : ∃ z, u0 = .iface t' z := by
        cases hx with
        | d _ _ _ hr => cases hr with
          | ifc _ _ z _ => exact ⟨z, rfl⟩
      obtain ⟨z, rfl⟩ := hx'
      have hg := eqGuard_skip (P := P) (w := w) (op := op) (t := t) (x := ox) (y := oy) (a := .iface t' z) (b := .nilIface) (.inl (by simp)) (.inl (by simp))
      simp only [Sem.run_bind, hg, Result.andThen_ok]
      refine eqRes_sound h (fun o ho => by rcases ho with rfl | rfl <;> rfl) ?_
      exact equal_of fun d => by simp [Op.equalIn, run_underlying hu]
    · cases h
  · rename_i xs ys
    split at h
    · rename_i b hb; exact eqAgg_sound hx hy hb h
    · cases h
  · cases h

end
end Go.Dv

/-
  DERIVED, MY OWN. OPERATIONS THAT BUILD AND ALLOCATE.
-/

set_option autoImplicit false
namespace Go.Dv
open Go Go.RowKit

section
variable {P : Program} {G : Gh} {w : World}

/-- Cells, one by one. -/
def CR (G : Gh) (w : World) (cs : List AV) (vs : Array Value) : Prop :=
  vs.size = cs.length ∧ ∀ (k : Nat) a, cs[k]? = some a → ∃ x, vs[k]? = some x ∧ x.oneCell' = true ∧ VR G w a x

theorem cells_of_one {u : Value} (h : u.oneCell' = true) : u.cells = #[u] := by
  cases u <;> first | rfl | (simp [Value.oneCell'] at h)

theorem cells_cr {x : AV} {u : Value} (hx : VR G w x u) (h1 : onesB (cellsAV x) = true) : CR G w (cellsAV x) u.cells := by
  have single : ∀ {x : AV}, VR G w x u → x.one = true → cellsAV x = [x] → CR G w (cellsAV x) u.cells := by
    intro x hx ho hc
    have h1 := hx.oneCell ho
    rw [hc, cells_of_one h1]
    refine ⟨rfl, fun k a ha => ?_⟩
    match k with
    | 0 => simp at ha; subst ha; exact ⟨u, by simp, h1, hx⟩
    | k + 1 => simp at ha
  cases x with
  | agg cs =>
    obtain ⟨vs, rfl, hs, hr⟩ := hx.agg_inv
    exact ⟨hs, hr⟩
  | junk => simp [cellsAV, onesB, AV.one] at h1
  | tup vs => simp [cellsAV, onesB, AV.one] at h1
  | d x fr => exact single hx rfl rfl
  | rs s g off len => exact single hx rfl rfl
  | rp s g i k => exact single hx rfl rfl
  | ifc t x => exact single hx rfl rfl
  | clo f caps => exact single hx rfl rfl
  | rc s g off len cap => exact single hx rfl rfl
  | yld s g => exact single hx rfl rfl

theorem zeros_cr {z : List Value} (h : ∀ v ∈ z, v.oneCell' = true) : CR G w (z.map fun v => .d (ofVal v) true) z.toArray := by
  refine ⟨by simp, fun k a ha => ?_⟩
  rw [List.getElem?_map] at ha
  cases hk : z[k]? with
  | none => simp [hk] at ha
  | some v =>
    simp [hk] at ha
    subst ha
    have h1 := h v (List.mem_of_getElem? hk)
    exact ⟨v, by simpa using hk, h1, .d _ _ _ (ofVal_rep v h1)⟩

theorem run_zeros {t : TypeId} {z : List Value} (h : zeros P t = some z) (w : World) :
    ∃ zv inf, P.info? t = some inf ∧ inf.zero = some zv ∧ zv.cells = z.toArray ∧ (∀ v ∈ z, v.oneCell' = true) ∧ (zeroValue t).run P w = .ok zv w := by
  unfold zeros at h
  cases hi : P.info? t with
  | none => simp [hi] at h
  | some inf =>
    cases hz : inf.zero with
    | none => simp [hi, hz] at h
    | some zv =>
      simp only [hi, hz, Option.bind_some] at h
      split at h
      · rename_i hall
        obtain rfl := Option.some.inj h
        exact ⟨zv, inf, rfl, hz, by simp, List.all_eq_true.1 hall, by simp [zeroValue, typeInfo, hi, hz]⟩
      · cases h

theorem foldl_set (off : Nat) : ∀ (l : List Value) (n : Nat) (cells : Array Value), off + n + l.length ≤ cells.size →
    ((l.zipIdx n).foldl (fun cs p => cs.setIfInBounds (off + p.2) p.1) cells).size = cells.size ∧
    ∀ k, ((l.zipIdx n).foldl (fun cs p => cs.setIfInBounds (off + p.2) p.1) cells)[k]? = if off + n ≤ k ∧ k < off + n + l.length then l[k - (off + n)]? else cells[k]?
  | [], n, cells, _ => by
    refine ⟨rfl, fun k => ?_⟩
    rw [if_neg (by simp)]
    rfl
  | v :: l, n, cells, h => by
    simp only [List.length_cons] at h
    obtain ⟨h1, h2⟩ := foldl_set off l (n + 1) (cells.setIfInBounds (off + n) v) (by simp; omega)
    simp only [List.zipIdx_cons, List.foldl_cons]
    refine ⟨by rw [h1]; simp, fun k => ?_⟩
    rw [h2 k]
    simp only [List.length_cons]
    by_cases ha : off + n = k
    · subst ha
      rw [if_neg (by omega), if_pos (by omega), Array.getElem?_setIfInBounds_self_of_lt (by omega)]
      simp
    · by_cases hb : off + (n + 1) ≤ k ∧ k < off + (n + 1) + l.length
      · rw [if_pos hb, if_pos (by omega)]
        rw [show k - (off + n) = (k - (off + (n + 1))) + 1 from by omega, List.getElem?_cons_succ]
      · rw [if_neg hb, if_neg (by omega), Array.getElem?_setIfInBounds_ne ha]

theorem fill_step (off : Nat) (vc cells : Array Value) (h : off + vc.size ≤ cells.size) :
    (vc.zipIdx.foldl (fun cs (c, j) => cs.setIfInBounds (off + j) c) cells).size = cells.size ∧
    ∀ k, (vc.zipIdx.foldl (fun cs (c, j) => cs.setIfInBounds (off + j) c) cells)[k]? = if off ≤ k ∧ k < off + vc.size then vc[k - off]? else cells[k]? := by
  have := foldl_set off vc.toList 0 cells (by simpa using h)
  rw [← Array.foldl_toList, Array.toList_zipIdx]
  simpa using this

theorem get_splice {α : Type} (l x : List α) (o k : Nat) (h : o ≤ l.length) :
    (l.take o ++ x ++ l.drop (o + x.length))[k]? = if o ≤ k ∧ k < o + x.length then x[k - o]? else l[k]? := by
  have hl : (l.take o).length = o := by simp; omega
  by_cases h1 : k < o
  · rw [if_neg (by omega), List.append_assoc, List.getElem?_append_left (by omega), List.getElem?_take, if_pos h1]
  · by_cases h2 : k < o + x.length
    · rw [if_pos (by omega), List.append_assoc, List.getElem?_append_right (by omega), hl, List.getElem?_append_left (by omega)]
    · rw [if_neg (by omega), List.getElem?_append_right (by simp; omega), List.getElem?_drop]
      congr 1
      simp
      omega

theorem fillAV_sound {place : Nat → Option (Nat × Nat)} {placeV : Nat → Option (Nat × Nat)} :
    ∀ (parts : List (Nat × AV)) (partsV : List (Nat × Value)) (cs : List AV) (vs : Array Value) (r : List AV),
      (∀ p ∈ parts, placeV p.1 = place p.1) → CR G w cs vs →
      partsV.length = parts.length → (∀ (k : Nat) p q, parts[k]? = some p → partsV[k]? = some q → p.1 = q.1 ∧ VR G w p.2 q.2) →
      fillAV place cs parts = some r → ∃ rv, Instr.fill placeV vs partsV = some rv ∧ CR G w r rv
  | [], [], cs, vs, r, _, hcr, _, _, h => by
    simp [fillAV] at h
    subst h
    exact ⟨vs, rfl, hcr⟩
  | [], _ :: _, _, _, _, _, _, hl, _, _ => by simp at hl
  | _ :: _, [], _, _, _, _, _, hl, _, _ => by simp at hl
  | (i, v) :: rest, (i', u) :: restV, cs, vs, r, hp, hcr, hl, hpq, h => by
    obtain ⟨he, hv⟩ := hpq 0 _ _ rfl rfl
    simp at he hv
    subst he
    simp only [fillAV] at h
    cases hpl : place i with
    | none => simp [hpl] at h
    | some os =>
      obtain ⟨off, size⟩ := os
      simp only [hpl] at h
      split at h
      · rename_i hc
        obtain ⟨hc1, hc2, hc3⟩ := hc
        have hcells := cells_cr hv hc3
        have husz : u.cells.size = size := by rw [hcells.1, hc1]
        obtain ⟨f1, f2⟩ := fill_step off u.cells vs (by rw [husz, hcr.1]; omega)
        have hcr' : CR G w (cs.take off ++ cellsAV v ++ cs.drop (off + size)) (u.cells.zipIdx.foldl (fun cs (c, j) => cs.setIfInBounds (off + j) c) vs) := by
          refine ⟨by rw [f1, hcr.1]; simp; omega, fun k a ha => ?_⟩
          rw [← hc1, get_splice _ _ _ _ (by omega)] at ha
          rw [f2 k]
          by_cases hk : off ≤ k ∧ k < off + (cellsAV v).length
          · rw [if_pos hk] at ha
            rw [if_pos (by omega)]
            exact hcells.2 _ a ha
          · rw [if_neg hk] at ha
            rw [if_neg (by omega)]
            exact hcr.2 _ a ha
        obtain ⟨rv, hf, hr⟩ := fillAV_sound rest restV _ _ r (fun p hm => hp p (by simp [hm])) hcr' (by simpa using hl)
          (fun k p q h1 h2 => hpq (k + 1) p q (by simpa using h1) (by simpa using h2)) h
        refine ⟨rv, ?_, hr⟩
        have hpv := hp (i, v) (by simp)
        simp only at hpv
        simp only [Instr.fill, hpv, hpl]
        rw [if_neg (by simp [husz]; rw [hcr.1]; omega)]
        exact hf
      · cases h

theorem map_places {P : Program} {w : World} : ∀ (fs : List Field) (pl : List (Nat × Nat)), (∀ f ∈ fs, ∃ inf, P.info? f.type = some inf) → pl = fs.map (fun f => (f.offset, szOf P f.type)) →
    (fs.mapM (fun f => do pure (f.offset, ← sizeOf f.type) : Field → Sem (Nat × Nat))).run P w = .ok pl w
  | [], pl, _, h => by subst h; rfl
  | f :: fs, pl, hi, h => by
    subst h
    obtain ⟨inf, hinf⟩ := hi f (by simp)
    have ih := map_places (P := P) (w := w) fs _ (fun f hf => hi f (by simp [hf])) rfl
    simp only [List.mapM_cons, Sem.run_bind, run_sizeOf' hinf, Result.andThen_ok, Sem.run_pure, ih]
    rfl

theorem buildAV_sound {t : TypeId} {v : AV} {parts : List (Nat × AV)} {partsV : List (Nat × Value)} (hk : fieldsKnown P t = true)
    (hlen : partsV.length = parts.length) (hpq : ∀ (k : Nat) p q, parts[k]? = some p → partsV[k]? = some q → p.1 = q.1 ∧ VR G w p.2 q.2)
    (h : buildAV P t parts = some v) : ∃ u, (Instr.build t partsV.toArray).run P w = .ok u w ∧ VR G w v u := by
  unfold buildAV at h
  cases hz : zeros P t with
  | none => simp [hz] at h
  | some z =>
    simp only [hz] at h
    split at h
    · rename_i hagg
      cases hf : fillAV (buildPlace P t) (z.map fun v => .d (ofVal v) true) parts with
      | none => simp [hf] at h
      | some cs =>
        simp [hf] at h
        subst h
        obtain ⟨zv, inf, hi, hzz, hzc, h1, hrun⟩ := run_zeros hz w
        have hcr := zeros_cr (G := G) (w := w) h1
        cases hu : P.underlying t with
        | none => simp [aggO, hu] at hagg
        | some d =>
          unfold fieldsKnown at hk
          cases d with
          | struct fs =>
            simp only [hu] at hk
            have hk' : ∀ f ∈ fs.toList, ∃ inf, P.info? f.type = some inf := fun f hf => Option.isSome_iff_exists.1 (List.all_eq_true.1 hk f hf)
            have hm := map_places (P := P) (w := w) fs.toList _ hk' rfl
            obtain ⟨rv, hfv, hrv⟩ := fillAV_sound (placeV := ((fs.toList.map fun f => (f.offset, szOf P f.type)).toArray[·]?)) parts partsV _ _ cs
              (fun p _ => by simp [buildPlace, hu]) hcr hlen hpq hf
            refine ⟨.agg rv, ?_, VR.mk_agg hrv.1 hrv.2⟩
            rw [← hzc] at hfv
            have hm' : (fs.mapM (fun f => do pure (f.offset, ← sizeOf f.type) : Field → Sem (Nat × Nat))).run P w = .ok (fs.toList.map fun f => (f.offset, szOf P f.type)).toArray w := by
              rw [← Array.toArray_toList (xs := fs), List.mapM_toArray]
              simp only [Sem.run_map, hm, Result.andThen_ok]
            simp only [Instr.build, Sem.run_bind, hrun, Result.andThen_ok, run_underlying hu, hm']
            rw [hfv]
            rfl
          | array n e =>
            simp only [hu] at hk
            obtain ⟨infe, hie⟩ := Option.isSome_iff_exists.1 hk
            obtain ⟨rv, hfv, hrv⟩ := fillAV_sound (placeV := fun i => some (i * szOf P e, szOf P e)) parts partsV _ _ cs
              (fun p _ => by simp [buildPlace, hu]) hcr hlen hpq hf
            refine ⟨.agg rv, ?_, VR.mk_agg hrv.1 hrv.2⟩
            rw [← hzc] at hfv
            simp only [Instr.build, Sem.run_bind, hrun, Result.andThen_ok, run_underlying hu, run_sizeOf' hie]
            rw [hfv]
            rfl
          | _ => simp [hu] at hk
    · cases h

end
end Go.Dv

/-
  DERIVED, MY OWN. ROWS THAT ARE BUILT AND MADE; THE PURE OPERATIONS TOGETHER.
-/

set_option autoImplicit false
namespace Go.Dv
open Go Go.RowKit

section
variable {P : Program} {G : Gh} {w : World}

/-- The elements of a row, in an array. -/
def RowR (G : Gh) (w : World) (e : Nat) (fr : Bool) (base : Nat) (xs : List (List Data)) (arr : Array Value) : Prop :=
  base + xs.length * e ≤ arr.size ∧ ∀ (i : Nat) c, xs[i]? = some c → c.length = e ∧
    ∀ (k : Nat) d, c[k]? = some d → ∃ u, arr[base + (i * e + k)]? = some u ∧ VR G w (.d d fr) u

theorem VR.weaken {x : Data} {fr fr' : Bool} {u : Value} (h : VR G w (.d x fr) u) (hf : fr' = true → fr = true) : VR G w (.d x fr') u := by
  cases h with
  | d _ _ _ hr => exact .d _ _ _ (hr.mono fun b hb => ⟨⟨hb.1, fun h => hb.2 (hf h)⟩, rfl⟩)

theorem RowR.weaken {e base : Nat} {fr fr' : Bool} {xs : List (List Data)} {arr : Array Value} (h : RowR G w e fr base xs arr) (hf : fr' = true → fr = true) : RowR G w e fr' base xs arr :=
  ⟨h.1, fun i c hi => ⟨(h.2 i c hi).1, fun k d hk => let ⟨u, hu, hv⟩ := (h.2 i c hi).2 k d hk; ⟨u, hu, hv.weaken hf⟩⟩⟩

theorem datas_get : ∀ {cs : List AV} {ds : List Data} {fr : Bool}, datas cs = some (ds, fr) → ds.length = cs.length ∧
    ∀ (k : Nat) d, ds[k]? = some d → ∃ fr', cs[k]? = some (.d d fr') ∧ (fr = true → fr' = true)
  | [], ds, fr, h => by
    simp [datas] at h
    obtain ⟨rfl, rfl⟩ := h
    exact ⟨rfl, fun k d hk => by simp at hk⟩
  | a :: l, ds, fr, h => by
    simp only [datas] at h
    cases ha : dataOf a with
    | none => simp [ha] at h
    | some p =>
      obtain ⟨x, f1⟩ := p
      cases hl : datas l with
      | none => simp [ha, hl] at h
      | some q =>
        obtain ⟨xs, f2⟩ := q
        simp [ha, hl] at h
        obtain ⟨rfl, rfl⟩ := h
        obtain ⟨h1, h2⟩ := datas_get hl
        refine ⟨by simp [h1], fun k d hk => ?_⟩
        cases k with
        | zero =>
          simp at hk
          subst hk
          cases a <;> simp [dataOf] at ha
          obtain ⟨rfl, rfl⟩ := ha
          exact ⟨_, rfl, fun h => by simp at h; exact h.1⟩
        | succ k =>
          simp at hk
          obtain ⟨fr', hc, hf⟩ := h2 k d hk
          exact ⟨fr', by simpa using hc, fun h => hf (by simp at h; exact h.2)⟩

theorem datas_ones {cs : List AV} {ds : List Data} {fr : Bool} (h : datas cs = some (ds, fr)) : onesB cs = true := by
  obtain ⟨hl, hg⟩ := datas_get h
  unfold onesB
  rw [List.all_eq_true]
  intro a ha
  obtain ⟨k, hk, rfl⟩ := List.getElem_of_mem ha
  obtain ⟨fr', hc, _⟩ := hg k ds[k] (List.getElem?_eq_getElem (by omega))
  rw [List.getElem?_eq_getElem hk] at hc
  rw [Option.some.inj hc]
  rfl

theorem idx_lt {i j e k : Nat} (hk : k < e) (h : i < j) : i * e + k < j * e := by
  have : (i + 1) * e ≤ j * e := Nat.mul_le_mul_right _ h
  rw [Nat.add_mul] at this
  omega

theorem fillRow_sound {e : Nat} : ∀ (parts : List (Nat × AV)) (partsV : List (Nat × Value)) (xs : List (List Data)) (fr : Bool) (vs : Array Value) (r : List (List Data)) (fr' : Bool),
      RowR G w e fr 0 xs vs → vs.size = xs.length * e →
      partsV.length = parts.length → (∀ (k : Nat) p q, parts[k]? = some p → partsV[k]? = some q → p.1 = q.1 ∧ VR G w p.2 q.2) →
      fillRow e xs fr parts = some (r, fr') → ∃ rv, Instr.fill (fun i => some (i * e, e)) vs partsV = some rv ∧ RowR G w e fr' 0 r rv ∧ rv.size = vs.size ∧ r.length = xs.length
  | [], [], xs, fr, vs, r, fr', hr, hs, _, _, h => by
    simp [fillRow] at h
    obtain ⟨rfl, rfl⟩ := h
    exact ⟨vs, rfl, hr, rfl, rfl⟩
  | [], _ :: _, _, _, _, _, _, _, _, hl, _, _ => by simp at hl
  | _ :: _, [], _, _, _, _, _, _, _, hl, _, _ => by simp at hl
  | (i, v) :: rest, (i', u) :: restV, xs, fr, vs, r, fr', hr, hs, hl, hpq, h => by
    obtain ⟨he, hv⟩ := hpq 0 _ _ rfl rfl
    simp at he hv
    subst he
    simp only [fillRow] at h
    cases hd : datas (cellsAV v) with
    | none => simp [hd] at h
    | some p =>
      obtain ⟨c, f1⟩ := p
      simp only [hd] at h
      split at h
      · rename_i hc
        obtain ⟨hc1, hc2⟩ := hc
        have hcells := cells_cr hv (datas_ones hd)
        obtain ⟨hdl, hdg⟩ := datas_get hd
        have husz : u.cells.size = e := by rw [hcells.1, ← hdl, hc1]
        have hbound : i * e + e ≤ xs.length * e := by
          have : (i + 1) * e ≤ xs.length * e := Nat.mul_le_mul_right _ hc2
          rw [Nat.add_mul] at this
          omega
        obtain ⟨g1, g2⟩ := fill_step (i * e) u.cells vs (by rw [husz, hs]; exact hbound)
        have hr' : RowR G w e (fr && f1) 0 (xs.set i c) (u.cells.zipIdx.foldl (fun cs (c, j) => cs.setIfInBounds (i * e + j) c) vs) := by
          refine ⟨by rw [g1, hs]; simp, fun j c' hj => ?_⟩
          rw [List.getElem?_set] at hj
          split at hj
          · rename_i hij
            subst hij
            obtain rfl := Option.some.inj hj
            refine ⟨hc1, fun k d hk => ?_⟩
            have hkl : k < e := by have := (List.getElem?_eq_some_iff.1 hk).1; omega
            obtain ⟨ff, hcc, hff⟩ := hdg k d hk
            obtain ⟨x, hx, _, hvx⟩ := hcells.2 k _ hcc
            refine ⟨x, ?_, hvx.weaken fun h => hff (by simp at h; exact h.2)⟩
            rw [g2, Nat.zero_add, if_pos (by omega), show i * e + k - i * e = k from by omega]
            exact hx
          · rename_i hij
            obtain ⟨l1, l2⟩ := hr.2 j c' hj
            refine ⟨l1, fun k d hk => ?_⟩
            obtain ⟨x, hx, hvx⟩ := l2 k d hk
            have hkl : k < e := by have := (List.getElem?_eq_some_iff.1 hk).1; omega
            refine ⟨x, ?_, hvx.weaken fun h => by simp at h; exact h.1⟩
            rw [g2, if_neg]
            · exact hx
            · intro ⟨ha, hb⟩
              rw [husz] at hb
              rcases Nat.lt_or_gt_of_ne hij with hlt | hgt
              · have h2 : (i + 1) * e ≤ j * e := Nat.mul_le_mul_right _ hlt
                rw [Nat.add_mul] at h2
                omega
              · have := idx_lt hkl hgt
                omega
        obtain ⟨rv, hf, hrr, hsz, hlen⟩ := fillRow_sound rest restV _ _ _ r fr' hr' (by rw [g1, hs]; simp) (by simpa using hl)
          (fun k p q h1 h2 => hpq (k + 1) p q (by simpa using h1) (by simpa using h2)) h
        refine ⟨rv, ?_, hrr, by rw [hsz, g1], by rw [hlen]; simp⟩
        simp only [Instr.fill]
        rw [if_neg (by simp [husz]; rw [hs]; omega)]
        exact hf
      · cases h

theorem zeroRow_sound {e : TypeId} {n : Nat} {xs : List (List Data)} (h : zeroRow P e n = some xs) (w : World) (G : Gh) :
    0 < szOf P e ∧ xs.length = n ∧ ∃ zv inf, P.info? e = some inf ∧ inf.zero = some zv ∧ (zeroValue e).run P w = .ok zv w ∧ zv.cells.size = szOf P e ∧
      (∀ m, n * szOf P e ≤ m → RowR G w (szOf P e) true 0 xs ((Array.range m).map (zv.cells[· % zv.cells.size]!))) ∧
      ∀ m (j : Nat) u, ((Array.range m).map (zv.cells[· % zv.cells.size]!))[j]? = some u → u.oneCell' = true := by
  unfold zeroRow at h
  cases hz : zeros P e with
  | none => simp [hz] at h
  | some z =>
    simp only [hz] at h
    split at h
    · rename_i hc
      obtain ⟨hc1, hc2⟩ := hc
      obtain rfl := Option.some.inj h
      obtain ⟨zv, inf, hi, hzz, hzc, h1, hrun⟩ := run_zeros hz w
      refine ⟨hc2, by simp, zv, inf, hi, hzz, hrun, by rw [hzc]; simpa using hc1, fun m hm => ⟨by simpa using hm, fun i c hi' => ?_⟩, fun m j u hj => ?_⟩
      rotate_left
      · rw [Array.getElem?_map] at hj
        cases hr : (Array.range m)[j]? with
        | none => rw [hr] at hj; simp at hj
        | some q =>
          rw [hr] at hj
          simp only [Option.map_some, Option.some.injEq] at hj
          subst hj
          have hlt : q % zv.cells.size < zv.cells.size := Nat.mod_lt _ (by rw [hzc]; simp; omega)
          rw [getElem!_pos zv.cells (q % zv.cells.size) hlt]
          refine h1 _ ?_
          simp [hzc]
      rw [List.getElem?_replicate] at hi'
      split at hi'
      · rename_i hin
        obtain rfl := Option.some.inj hi'
        refine ⟨by simp [hc1], fun k d hk => ?_⟩
        rw [List.getElem?_map] at hk
        cases hzk : z[k]? with
        | none => simp [hzk] at hk
        | some v =>
          simp [hzk] at hk
          subst hk
          have hkl : k < szOf P e := by have := (List.getElem?_eq_some_iff.1 hzk).1; omega
          have hlt := idx_lt hkl hin
          have hv1 := h1 v (List.mem_of_getElem? hzk)
          refine ⟨v, ?_, .d _ _ _ (ofVal_rep v hv1)⟩
          have hmod : (i * szOf P e + k) % szOf P e = k := by
            rw [Nat.mul_comm, Nat.mul_add_mod, Nat.mod_eq_of_lt hkl]
          rw [Nat.zero_add, Array.getElem?_map, Array.getElem?_range, if_pos (by omega)]
          simp only [Option.map_some, hzc, List.size_toArray, hc1, hmod]
          rw [getElem!_pos _ _ (by simp; omega)]
          congr 1
          have := (List.getElem?_eq_some_iff.1 hzk).2
          simpa using this
      · cases hi'
    · cases h

/-- What a new block is, behind the operation that made it: in whatever ghost that names it. -/
def NewOk (G : Gh) (w : World) (s g : Nat) (v : AV) (ob : OB) (u : Value) (arr : Array Value) (ty : TypeId) : Prop :=
  ∀ G', G'.loc s = some ⟨w.heap.size, 0, obEsz ob, g, arr.size⟩ → G'.U s g → G'.B ≤ w.heap.size → Ext G w G' (w.alloc (.cells arr ty)) →
    VR G' (w.alloc (.cells arr ty)) v u ∧ OwnOk G' (w.alloc (.cells arr ty)) ⟨w.heap.size, 0, obEsz ob, g, arr.size⟩ ob

/-- A row that fills its block. -/
theorem RowR.one {e : Nat} {fr : Bool} {xs : List (List Data)} {arr : Array Value} (h : RowR G w e fr 0 xs arr) (he : 0 < e) (hs : arr.size = xs.length * e) : ∀ (j : Nat) u, arr[j]? = some u → u.oneCell' = true := by
  intro j u hj
  have hjl : j < xs.length * e := by have := (Array.getElem?_eq_some_iff.1 hj).1; omega
  have hi : j / e < xs.length := Nat.div_lt_of_lt_mul (by rw [Nat.mul_comm]; exact hjl)
  obtain ⟨hcl, hcd⟩ := h.2 _ _ (List.getElem?_eq_getElem hi)
  have hk : j % e < (xs[j / e]).length := by rw [hcl]; exact Nat.mod_lt _ he
  obtain ⟨u', hu, hvr⟩ := hcd _ _ (List.getElem?_eq_getElem hk)
  have e2 : 0 + (j / e * e + j % e) = j := by rw [Nat.zero_add, Nat.mul_comm]; exact Nat.div_add_mod j _
  rw [e2, hj] at hu
  obtain rfl := Option.some.inj hu
  exact hvr.oneCell rfl

theorem newRow_ok {s g : Nat} {e : TypeId} {esz : Nat} {fr : Bool} {xs : List (List Data)} {arr : Array Value} {len cap : Nat} (hr : RowR G w esz fr 0 xs arr)
    (hlen : len ≤ cap) (hs : cap * esz ≤ arr.size) (hone : ∀ (j : Nat) u, arr[j]? = some u → u.oneCell' = true) :
    NewOk G w s g (.rs s g 0 len) (.row e esz g true false fr xs) (.slice (some ⟨w.heap.size, 0, none⟩) len cap) arr e := by
  intro G' hl hU hB hext
  refine ⟨.rs _ _ _ _ _ rfl hU (fun L hL _ => ?_), rfl, rfl, fun _ => hB, fun _ => ⟨rfl, rfl, .mk (heap_alloc_new w _) hone⟩, arr, heap_alloc_new w _, rfl, by simpa using hr.1, fun i c hi => ⟨(hr.2 i c hi).1, fun k d hk => ?_⟩⟩
  · rw [hl] at hL
    obtain rfl := Option.some.inj hL
    exact ⟨_, cap, rfl, hlen, fun _ => by simp, by simpa [obEsz] using hs⟩
  · obtain ⟨u, hu, hv⟩ := (hr.2 i c hi).2 k d hk
    exact ⟨u, hu, hv.ext hext⟩

theorem newVar_ok {s g : Nat} {e : TypeId} {cs : List AV} {arr : Array Value} (hr : CR G w cs arr) :
    NewOk G w s g (.rp s g 0 0) (.var e g false cs) (.pointer (some ⟨w.heap.size, 0, none⟩)) arr e := by
  intro G' hl hU hB hext
  refine ⟨VR.mk_rp hU hl (by simp), rfl, rfl, fun _ => hB, arr, heap_alloc_new w _, rfl, by rw [hr.1]; simp, fun k a hk => ?_⟩
  obtain ⟨u, hu, h1, hv⟩ := hr.2 k a hk
  exact ⟨u, by simpa using hu, hv.ext hext, h1⟩

theorem makeSliceAV_sound {s g : Nat} {t : TypeId} {l c v : AV} {ob : OB} {u0 u1 : Value} (hl : VR G w l u0) (hc : VR G w c u1)
    (h : makeSliceAV P s g t l c = some (v, some ob)) :
    ∃ u arr ty, (Instr.makeSlice t u0 u1).run P w = .ok u (w.alloc (.cells arr ty)) ∧ NewOk G w s g v ob u arr ty := by
  unfold makeSliceAV at h
  split at h
  · rename_i e li ci hu hli hci
    obtain ⟨k1, rfl⟩ := intOfAV_sound hl hli
    obtain ⟨k2, rfl⟩ := intOfAV_sound hc hci
    split at h
    · rename_i hcond
      obtain ⟨c1, c2, c3, c4⟩ := hcond
      cases hz : zeroRow P e li.toNat with
      | none => simp [hz] at h
      | some xs =>
        simp [hz] at h
        obtain ⟨rfl, rfl⟩ := h
        obtain ⟨hsz, hxl, zv, inf, hinf, _, hrun, hzs, hrow, hone⟩ := zeroRow_sound hz w G
        have hwl : IntKind.i64.wrap li = li := by
          unfold IntKind.wrap IntKind.bits IntKind.signed; simp; omega
        have hwc : IntKind.i64.wrap ci = ci := by
          unfold IntKind.wrap IntKind.bits IntKind.signed; simp; omega
        have hby : (inf.bytes : Int) = bytesOf P e := by simp [bytesOf, Program.bytesOf, hinf]
        have hle : li.toNat * szOf P e ≤ ci.toNat * szOf P e := Nat.mul_le_mul_right _ (by omega)
        refine ⟨_, _, e, ?_, newRow_ok (cap := ci.toNat) (hrow (ci.toNat * szOf P e) hle) (by omega) (by simp) (hone _)⟩
        have hbig : ¬ (281474976710656 : Int) < (bytesOf P e : Int) * ci := by
          rw [Int.mul_comm]; omega
        simp only [Instr.makeSlice, Sem.run_bind, run_underlying hu, Result.andThen_ok, asInt, asIntOf, Sem.run_pure, typeInfo, run_program, hinf, hwl, hwc]
        rw [if_neg (by simp [hby]; omega)]
        simp only [Sem.run_bind, Result.andThen_ok, run_askRoom, run_sizeOf' hinf]
        by_cases hn : ci.toNat * szOf P e = 0
        · rw [if_pos hn]
          have hr0 : Array.range 0 = #[] := rfl
          simp [newRow, hn, hr0]
        · rw [if_neg hn]
          simp [newRow, hrun]
    · cases h
  · cases h

theorem buildSliceAV_sound {σ : St} {a : Act} (hE : ∀ t, VR G w (σ.env t) (a.tmps.getD t undef)) {s g : Nat} {t : TypeId} {len : Nat} {parts : List (Nat × Operand)} {v : AV} {ob : OB}
    (h : buildSliceAV P σ s g t len parts = some (v, some ob)) :
    ∃ u arr ty, (Instr.buildSlice t len (parts.map fun (i, x) => (i, a.eval x)).toArray).run P w = .ok u (w.alloc (.cells arr ty)) ∧ NewOk G w s g v ob u arr ty := by
  unfold buildSliceAV at h
  split at h
  · rename_i e hu
    split at h
    · rename_i hcap
      cases hz : zeroRow P e len with
      | none => simp [hz] at h
      | some xs =>
        simp only [hz] at h
        cases hf : fillRow (szOf P e) xs true (parts.map fun (i, x) => (i, σ.eval x)) with
        | none => simp [hf] at h
        | some p =>
          obtain ⟨r, fr⟩ := p
          simp [hf] at h
          obtain ⟨rfl, rfl⟩ := h
          obtain ⟨hsz, hxl, zv, inf, hinf, _, hrun, hzs, hrow, hone⟩ := zeroRow_sound hz w G
          obtain ⟨rv, hfv, hrr, hrs, hrl⟩ := fillRow_sound _ (parts.map fun (i, x) => (i, a.eval x)) _ _ _ _ _ (hrow (len * szOf P e) (Nat.le_refl _)) (by simp [hxl]) (by simp)
            (fun k p q h1 h2 => by
              rw [List.getElem?_map] at h1 h2
              cases hp : parts[k]? with
              | none => simp [hp] at h1
              | some pp =>
                simp [hp] at h1 h2
                subst h1; subst h2
                exact ⟨rfl, eval_vr hE _⟩) hf
          refine ⟨_, rv, e, ?_, newRow_ok (cap := len) hrr (Nat.le_refl _) (by rw [hrs]; simp) (hrr.one hsz (by rw [hrs, hrl, hxl]; simp))⟩
          have hz0 : len * szOf P e = 0 → (Array.range (len * szOf P e)).map ((#[] : Array Value)[· % (#[] : Array Value).size]!) = (Array.range (len * szOf P e)).map (zv.cells[· % zv.cells.size]!) := by
            intro hn; rw [hn]; simp
          simp only [Instr.buildSlice, Sem.run_bind, run_underlying hu, Result.andThen_ok, run_sizeOf' hinf]
          rw [if_neg (by omega)]
          by_cases hn : len * szOf P e = 0
          · rw [if_pos hn]
            simp only [Sem.run_bind, Sem.run_pure, Result.andThen_ok]
            rw [hz0 hn, hfv]
            simp [newRow]
          · rw [if_neg hn]
            simp only [Sem.run_bind, hrun, Sem.run_pure, Result.andThen_ok]
            rw [hfv]
            simp [newRow]
    · cases h
  · cases h

end
end Go.Dv

/-
  DERIVED, MY OWN. THE PURE OPERATIONS TOGETHER.
-/

set_option autoImplicit false
namespace Go.Dv
open Go Go.RowKit

section
variable {P : Program} {G : Gh} {w : World}

theorem toArray_map {α β : Type} (f : α → β) (xs : Array α) : (xs.toList.map f).toArray = xs.map f := by
  cases xs; simp

theorem eval_map {σ : St} {a : Act} (hE : ∀ t, VR G w (σ.env t) (a.tmps.getD t undef)) (xs : Option Operand) :
    (∀ v, xs.map σ.eval = some v → ∃ u, xs.map a.eval = some u ∧ VR G w v u) ∧ (xs.map σ.eval = none → xs.map a.eval = none) := by
  cases xs with
  | none => exact ⟨fun v h => by simp at h, fun _ => rfl⟩
  | some x => exact ⟨fun v h => by simp at h; subst h; exact ⟨_, rfl, eval_vr hE x⟩, fun h => by simp at h⟩

theorem minmax_fold {σ : St} {a : Act} (hE : ∀ t, VR G w (σ.env t) (a.tmps.getD t undef)) (b : Bool) : ∀ (xs : List Operand) (x v : AV) (u : Value),
    VR G w x u → (xs.map σ.eval).foldlM (minmaxAV b) x = some v →
    ∃ r, ((xs.map a.eval).foldlM (fun p q => if b then Builtin.max2 p q else Builtin.min2 p q) u : Sem Value).run P w = .ok r w ∧ VR G w v r
  | [], x, v, u, hx, h => by
    simp at h
    subst h
    exact ⟨u, rfl, hx⟩
  | y :: ys, x, v, u, hx, h => by
    simp only [List.map_cons, List.foldlM_cons] at h ⊢
    cases hm : minmaxAV b x (σ.eval y) with
    | none => simp [hm] at h
    | some z =>
      rw [hm] at h
      obtain ⟨r1, h1, h2⟩ := minmaxAV_sound (P := P) hx (eval_vr hE y) hm
      obtain ⟨r, h3, h4⟩ := minmax_fold hE b ys z v r1 h2 h
      exact ⟨r, by simp only [Sem.run_bind, h1, Result.andThen_ok, h3], h4⟩

/-- What an operation of ours makes of the machine's. -/
def PureOk (G : Gh) (w : World) (s g : Nat) (run : Result Next) (v : AV) : Option OB → Prop
  | none => ∃ u, run = .ok (.value u) w ∧ VR G w v u
  | some ob => ob.mt = false ∧ ∃ u arr ty, run = .ok (.value u) (w.alloc (.cells arr ty)) ∧ NewOk G w s g v ob u arr ty

theorem pure_of {s g : Nat} {sem : Sem Value} {v : AV} (h : ∃ u, sem.run P w = .ok u w ∧ VR G w v u) :
    PureOk G w s g ((do pure (.value (← sem)) : Sem Next).run P w) v none := by
  obtain ⟨u, h1, h2⟩ := h
  exact ⟨u, by simp [h1], h2⟩

theorem new_of {s g : Nat} {sem : Sem Value} {v : AV} {ob : OB} (hm : ob.mt = false) (h : ∃ u arr ty, sem.run P w = .ok u (w.alloc (.cells arr ty)) ∧ NewOk G w s g v ob u arr ty) :
    PureOk G w s g ((do pure (.value (← sem)) : Sem Next).run P w) v (some ob) := by
  obtain ⟨u, arr, ty, h1, h2⟩ := h
  exact ⟨hm, u, arr, ty, by simp [h1], h2⟩

theorem mapNone {x : Option AV} {v : AV} {nb : Option OB} (h : x.map (fun v => (v, (none : Option OB))) = some (v, nb)) : x = some v ∧ nb = none := by
  cases x with
  | none => simp at h
  | some y => simp at h; exact ⟨by rw [h.1], h.2.symm⟩

theorem evPure_sound {σ : St} {a : Act} (hE : ∀ t, VR G w (σ.env t) (a.tmps.getD t undef)) (hO : ∀ s ob, σ.own s = some ob → ∃ L, G.loc s = some L ∧ OwnOk G w L ob)
    {s g : Nat} {o : Oper} {v : AV} {nb : Option OB} (h : evPure P σ s g o.op = some (v, nb)) : PureOk G w s g ((execOp a.eval o).run P w) v nb := by
  obtain ⟨dst, op, ty, pos, after, guard⟩ := o
  simp only at h
  cases op with
  | move x =>
    simp only [evPure] at h
    obtain ⟨rfl, rfl⟩ := Prod.mk.inj (Option.some.inj h)
    exact ⟨_, rfl, eval_vr hE x⟩
  | assign x =>
    simp only [evPure] at h
    obtain ⟨rfl, rfl⟩ := Prod.mk.inj (Option.some.inj h)
    exact ⟨_, rfl, eval_vr hE x⟩
  | pick c x y =>
    simp only [evPure] at h
    split at h
    · rename_i t fr hc
      obtain ⟨rfl, rfl⟩ := Prod.mk.inj (Option.some.inj h)
      have := eval_vr hE c
      rw [hc] at this
      obtain ⟨hb, _⟩ := this.val_inv
      refine ⟨if t then a.eval x else a.eval y, by simp [execOp, hb, asBool], ?_⟩
      cases t <;> simp <;> exact eval_vr hE _
    · cases h
  | alloc e =>
    simp only [evPure] at h
    cases hz : zeros P e with
    | none => simp [hz] at h
    | some z =>
      simp [hz] at h
      obtain ⟨rfl, rfl⟩ := h
      obtain ⟨zv, inf, hi, _, hzc, h1, hrun⟩ := run_zeros hz w
      refine new_of rfl ⟨_, zv.cells, e, ?_, newVar_ok (by rw [hzc]; exact zeros_cr h1)⟩
      simp [Instr.alloc, hrun, newVar, newRow]
  | box e x =>
    simp only [evPure] at h
    split at h
    · rename_i hc
      obtain ⟨rfl, rfl⟩ := Prod.mk.inj (Option.some.inj h)
      refine new_of rfl ⟨_, (a.eval x).cells, e, ?_, newVar_ok (cells_cr (eval_vr hE x) hc.2)⟩
      simp [Instr.box, newVar, newRow]
    · cases h
  | build t parts =>
    simp only [evPure] at h
    split at h
    · cases h
    · rename_i hk
      replace h := mapNone h
      obtain ⟨h, rfl⟩ := h
      refine pure_of ?_
      have e : (parts.toList.map fun (i, x) => (i, a.eval x)).toArray = parts.map fun (i, x) => (i, a.eval x) := toArray_map _ _
      rw [← e]
      exact buildAV_sound (P := P) (G := G) (w := w) (partsV := parts.toList.map fun (i, x) => (i, a.eval x)) (by simpa using hk) (by simp)
        (fun k p q h1 h2 => by
          rw [List.getElem?_map] at h1 h2
          cases hp : parts.toList[k]? with
          | none => rw [hp] at h1; simp at h1
          | some pp =>
            rw [hp] at h1 h2
            simp at h1 h2
            subst h1; subst h2
            exact ⟨rfl, eval_vr hE _⟩) h
  | buildSlice t len parts =>
    simp only [evPure] at h
    cases nb with
    | none =>
      exfalso
      unfold buildSliceAV at h
      (repeat' split at h) <;> simp at h
    | some ob =>
      have := buildSliceAV_sound (P := P) hE h
      have e : (parts.toList.map fun (i, x) => (i, a.eval x)).toArray = parts.map fun (i, x) => (i, a.eval x) := toArray_map _ _
      rw [e] at this
      refine new_of ?_ this
      unfold buildSliceAV at h
      (repeat' split at h) <;> simp at h
      rcases h with ⟨_, ⟨_, _, rfl⟩ | ⟨_, _, rfl⟩⟩ <;> rfl
  | makeSlice t l c =>
    simp only [evPure] at h
    cases nb with
    | none =>
      exfalso
      unfold makeSliceAV at h
      (repeat' split at h) <;> simp at h
    | some ob =>
      refine new_of ?_ (makeSliceAV_sound (eval_vr hE l) (eval_vr hE c) h)
      unfold makeSliceAV at h
      (repeat' split at h) <;> simp at h
      obtain ⟨_, _, _, rfl⟩ := h
      rfl
  | load t p =>
    simp only [evPure] at h
    replace h := mapNone h
    obtain ⟨h, rfl⟩ := h
    exact pure_of (loadAV_sound hO (eval_vr hE p) h)
  | nilCheck x =>
    simp only [evPure] at h
    have hx := eval_vr hE x
    split at h
    · rename_i s' g' i k hx'
      rw [hx'] at hx
      split at h
      · rename_i hl
        obtain ⟨rfl, rfl⟩ := Prod.mk.inj (Option.some.inj h)
        obtain ⟨ob, L, _, hL, _, hgn⟩ := live_loc hO hl
        obtain ⟨_, hu⟩ := hx.rp_live hL hgn
        exact ⟨_, by simp only [execOp]; rw [hu]; rfl, hu ▸ hx⟩
      · cases h
    · rename_i cs fr hx'
      rw [hx'] at hx
      obtain ⟨rfl, rfl⟩ := Prod.mk.inj (Option.some.inj h)
      have hx2 := hx
      cases hx with
      | d _ _ _ hr =>
        generalize hu : a.eval x = u at hr hx2
        cases hr with
        | ptr _ ad us _ _ => exact ⟨_, by simp only [execOp]; rw [hu]; rfl, hx2⟩
    · cases h
  | binOp op t x y yt =>
    simp only [evPure] at h
    replace h := mapNone h
    obtain ⟨h, rfl⟩ := h
    exact pure_of (binAV_sound hO (eval_vr hE x) (eval_vr hE y) h)
  | unOp op t x =>
    simp only [evPure] at h
    replace h := mapNone h
    obtain ⟨h, rfl⟩ := h
    exact pure_of (unAV_sound (eval_vr hE x) h)
  | convert src dst x =>
    simp only [evPure] at h
    replace h := mapNone h
    obtain ⟨h, rfl⟩ := h
    exact pure_of (convAV_sound (eval_vr hE x) h)
  | makeInterface t x =>
    simp only [evPure] at h
    replace h := mapNone h
    obtain ⟨h, rfl⟩ := h
    exact pure_of (makeIfcAV_sound (eval_vr hE x) h)
  | slice t x lo hi mx =>
    cases mx with
    | some m => simp [evPure] at h
    | none =>
      simp only [evPure] at h
      replace h := mapNone h
      obtain ⟨h, rfl⟩ := h
      exact pure_of (sliceAV_sound hO (eval_vr hE x) (eval_map hE lo).1 (eval_map hE lo).2 (eval_map hE hi).1 (eval_map hE hi).2 h)
  | fieldAddr t x f =>
    simp only [evPure] at h
    replace h := mapNone h
    obtain ⟨h, rfl⟩ := h
    exact pure_of (fieldAddrAV_sound hO (eval_vr hE x) h)
  | field t x f =>
    simp only [evPure] at h
    replace h := mapNone h
    obtain ⟨h, rfl⟩ := h
    exact pure_of (fieldAV_sound (eval_vr hE x) h)
  | indexAddr t x i =>
    simp only [evPure] at h
    replace h := mapNone h
    obtain ⟨h, rfl⟩ := h
    exact pure_of (indexAddrAV_sound hO (eval_vr hE x) (eval_vr hE i) h)
  | index t x i =>
    simp only [evPure] at h
    replace h := mapNone h
    obtain ⟨h, rfl⟩ := h
    exact pure_of (indexAV_sound (eval_vr hE x) (eval_vr hE i) h)
  | extract x i =>
    simp only [evPure] at h
    replace h := mapNone h
    obtain ⟨h, rfl⟩ := h
    exact pure_of (extractAV_sound (eval_vr hE x) h)
  | makeFunc fn first caps =>
    cases fn with
    | func f =>
      simp only [evPure] at h
      split at h
      · rename_i hf
        subst hf
        obtain ⟨rfl, rfl⟩ := Prod.mk.inj (Option.some.inj h)
        refine ⟨.func (.func f) #[] (caps.map a.eval), by simp [execOp, Instr.makeFunc], .clo _ _ _ (by simp) (fun k b hb => ?_)⟩
        rw [List.getElem?_map] at hb
        cases hk : caps.toList[k]? with
        | none => rw [hk] at hb; simp at hb
        | some x =>
          rw [hk] at hb
          simp at hb
          subst hb
          have hk' : caps[k]? = some x := by simpa using hk
          have : (caps.map a.eval).getD k undef = a.eval x := by simp [hk']
          rw [this]
          exact eval_vr hE x
      · cases h
    | _ => simp [evPure] at h
  | call c =>
    obtain ⟨callee, args, argTypes⟩ := c
    cases callee with
    | builtin b =>
      simp only [evPure] at h
      split at h
      · rename_i x t hargs hty
        replace h := mapNone h
        obtain ⟨h, rfl⟩ := h
        have e1 : args = #[x] := by apply Array.ext'; simpa using hargs
        have e2 : argTypes = #[t] := by apply Array.ext'; simpa using hty
        subst e1; subst e2
        obtain ⟨u, h1, h2⟩ := lenAV_sound (P := P) (ty := ty) hO (eval_vr hE x) h
        exact ⟨u, by simp [execOp, resolve, invoke, builtin, h1], h2⟩
      · rename_i x t hargs hty
        replace h := mapNone h
        obtain ⟨h, rfl⟩ := h
        have e1 : args = #[x] := by apply Array.ext'; simpa using hargs
        have e2 : argTypes = #[t] := by apply Array.ext'; simpa using hty
        subst e1; subst e2
        obtain ⟨u, h1, h2⟩ := capAV_sound (P := P) (ty := ty) hO (eval_vr hE x) h
        exact ⟨u, by simp [execOp, resolve, invoke, builtin, h1], h2⟩
      · rename_i x rest hargs
        replace h := mapNone h
        obtain ⟨h, rfl⟩ := h
        have e1 : args = (x :: rest).toArray := by apply Array.ext'; simpa using hargs
        subst e1
        obtain ⟨u, h1, h2⟩ := minmax_fold (P := P) hE false rest _ _ _ (eval_vr hE x) h
        refine ⟨u, ?_, h2⟩
        simp [execOp, resolve, invoke, builtin, Builtin.min_]
        simp at h1
        rw [h1]
        rfl
      · rename_i x rest hargs
        replace h := mapNone h
        obtain ⟨h, rfl⟩ := h
        have e1 : args = (x :: rest).toArray := by apply Array.ext'; simpa using hargs
        subst e1
        obtain ⟨u, h1, h2⟩ := minmax_fold (P := P) hE true rest _ _ _ (eval_vr hE x) h
        refine ⟨u, ?_, h2⟩
        simp [execOp, resolve, invoke, builtin, Builtin.max_]
        simp at h1
        rw [h1]
        rfl
      · cases h
    | _ => simp [evPure] at h
  | _ => simp [evPure] at h

end
end Go.Dv

/-
  DERIVED, MY OWN. HOW A CALL's STATE GOES ON: a slot is set, a block is made, written, forgotten.
-/

set_option autoImplicit false
namespace Go.Dv
open Go Go.RowKit

section
variable {P : Program} {G : Gh} {V : Nat → Prop} {A0 : Nat → Prop} {M : Nat → Option MR} {w0 w : World} {X : Aux} {n : Nat} {σ : St} {a : Act}

theorem Rel.hO (h : Rel X G V A0 M w0 n σ a w) : ∀ s ob, σ.own s = some ob → ∃ L, G.loc s = some L ∧ OwnOk G w L ob :=
  fun s ob ho => let ⟨L, h1, h2, _⟩ := h.own s ob ho; ⟨L, h1, h2⟩

theorem Rel.put (h : Rel X G V A0 M w0 n σ a w) {dst : Option Tmp} {v : AV} {u : Value} (hv : VR G w v u) (hd : ∀ d, dst = some d → d < n) :
    Rel X G V A0 M w0 n (σ.put dst v) (a.put dst u) w := by
  cases dst with
  | none => exact h
  | some d =>
    have hd' := hd d rfl
    refine { h with tmps := by simp [Act.put, h.tmps], env := fun t => ?_ }
    show VR G w (if t = d then v else σ.env t) _
    simp only [Act.put]
    by_cases htd : t = d
    · subst htd
      simp [h.tmps, hd', hv]
    · rw [if_neg htd]
      have := h.env t
      rw [Array.getD_eq_getD_getElem?] at this ⊢
      rw [Array.getElem?_setIfInBounds_ne (fun e => htd e.symm)]
      exact this

theorem Rel.mono (h : Rel X G V A0 M w0 n σ a w) {V' : Nat → Prop} (hV : ∀ g, V g → V' g) : Rel X G V' A0 M w0 n σ a w :=
  { h with used := fun s g hg => hV g (h.used s g hg) }

/-- One block of ours is made, or turned. -/
theorem Rel.change (h : Rel X G V A0 M w0 n σ a w) {G' : Gh} {V' : Nat → Prop} {w' : World} {s : Nat} {ob : OB} {L : Loc}
    (hp : Past G.B M w0 w') (hB : G'.B = G.B) (hA : G'.A = G.A) (hU : ∀ s g, G'.U s g → V' g) (hext : Ext G w G' w') (hsz : w.heap.size ≤ w'.heap.size)
    (hs : G'.loc s = some L) (hne : ∀ s', s' ≠ s → G'.loc s' = G.loc s') (hok : OwnOk G' w' L ob) (hLU : G'.U s L.gen)
    (hblk : ∀ s' L', s' ≠ s → G.loc s' = some L' → L'.blk ≠ L.blk ∧ w'.heap[L'.blk]? = w.heap[L'.blk]?)
    (hold : (G.B ≤ L.blk ∧ ob.mt = false) ∨ ∃ m, M L.blk = some m ∧ L.base = m.lo ∧ L.base + obLen ob ≤ m.hi) :
    Rel X G' V' A0 M w0 n (σ.setOwn s (some ob)) a w' := by
  refine ⟨hB ▸ hp, hB.trans h.isB, hA.trans h.isA, by rw [hB]; exact Nat.le_trans h.hB hsz, by rw [hA, hB]; exact h.hA, hU, ⟨h.defers.1.ext hext, h.defers.2⟩, h.tmps, fun t => (h.env t).ext hext, fun s' ob' ho => ?_, fun s' L' hl => ?_, fun s1 s2 L1 L2 h1 h2 h12 => ?_, fun s' L' ob' hl ho => ?_, fun f hf => (h.aux f hf).ext hext⟩
  · simp only [St.setOwn] at ho
    split at ho
    · rename_i e
      subst e
      obtain rfl := Option.some.inj ho
      exact ⟨L, hs, hok, hLU⟩
    · rename_i e
      obtain ⟨L', hL', hok', hgu⟩ := h.own s' ob' ho
      exact ⟨L', by rw [hne s' e]; exact hL', hok'.ext hext (hblk s' L' e hL').2, hext.U _ _ hgu⟩
  · simp only [St.setOwn]
    split
    · exact ⟨ob, rfl⟩
    · rename_i e
      rw [hne s' e] at hl
      exact h.loc s' L' hl
  · by_cases e1 : s1 = s
    · have e2 : s2 ≠ s := fun e => h12 (e1.trans e.symm)
      rw [hne s2 e2] at h2
      subst e1
      rw [hs] at h1
      obtain rfl := Option.some.inj h1
      exact fun e => (hblk s2 L2 e2 h2).1 e.symm
    · rw [hne s1 e1] at h1
      by_cases e2 : s2 = s
      · subst e2
        rw [hs] at h2
        obtain rfl := Option.some.inj h2
        exact (hblk s1 L1 e1 h1).1
      · rw [hne s2 e2] at h2
        exact h.inj s1 s2 L1 L2 h1 h2 h12
  · by_cases e : s' = s
    · subst e
      rw [hs] at hl
      obtain rfl := Option.some.inj hl
      simp [St.setOwn] at ho
      subst ho
      rw [hB]
      exact hold
    · rw [hne s' e] at hl
      rw [hB]
      exact h.old s' L' ob' hl (by simp only [St.setOwn, if_neg e] at ho; exact ho)

theorem Past.alloc {B : Nat} (h : Past B M w0 w) (hB : B ≤ w.heap.size) (o : Obj) : Past B M w0 (w.alloc o) :=
  ⟨h.os, h.tape, h.output, Nat.le_trans h.size (by simp), fun b hb hm => by rw [Below.heap_alloc w o b (by omega)]; exact h.block b hb hm,
    fun b m hm => ⟨(h.may b m hm).1, by
      obtain ⟨hlt, arr, h1, h2, h3⟩ := h.may b m hm
      exact ⟨arr, by rw [Below.heap_alloc w o b (by omega)]; exact h1, h2, h3⟩⟩⟩

theorem Past.drew {B : Nat} (h : Past B M w0 w) : Past B M w0 w.drew :=
  ⟨h.os, h.tape, h.output, h.size, h.block, h.may⟩

/-- The ghost with one block more. -/
def Gh.add (G : Gh) (s : Nat) (L : Loc) : Gh := { G with loc := fun s' => if s' = s then some L else G.loc s', U := fun s' g => G.U s' g ∨ (s' = s ∧ g = L.gen) }

theorem Gh.add_ext {s : Nat} {L : Loc} {w w' : World} (hg : ¬ G.U s L.gen) (hF : ∀ b, G.F w b → L.blk ≠ b ∧ w'.heap[b]? = w.heap[b]?) (hsz : w.heap.size ≤ w'.heap.size) :
    Ext G w (G.add s L) w' := by
  refine ⟨fun s g hg => .inl hg, rfl, fun s' L' hl => ?_, fun b hb => ⟨⟨hb.1, Nat.lt_of_lt_of_le hb.2.1 hsz, fun s' L' hl => ?_⟩, (hF b hb).2⟩⟩
  · simp only [Gh.add] at hl
    split at hl
    · rename_i e; subst e; obtain rfl := Option.some.inj hl; exact .inr hg
    · exact .inl hl
  · simp only [Gh.add] at hl
    split at hl
    · obtain rfl := Option.some.inj hl; exact (hF b hb).1
    · exact hb.2.2 s' L' hl

theorem Rel.new (h : Rel X G V A0 M w0 n σ a w) {s g : Nat} {v : AV} {ob : OB} {u : Value} {arr : Array Value} {ty : TypeId} {V' : Nat → Prop}
    (hn : NewOk G w s g v ob u arr ty) (hmt : ob.mt = false) (hg : ¬ G.U s g) (hV : ∀ g', V g' → V' g') (hVg : V' g) :
    ∃ G', G'.U s g ∧ VR G' (w.alloc (.cells arr ty)) v u ∧ Rel X G' V' A0 M w0 n (σ.setOwn s (some ob)) a (w.alloc (.cells arr ty)) ∧ Ext G w G' (w.alloc (.cells arr ty)) ∧
      (∀ s' g', G'.U s' g' → G.U s' g' ∨ (s' = s ∧ g' = g)) := by
  have hext : Ext G w (G.add s ⟨w.heap.size, 0, obEsz ob, g, arr.size⟩) (w.alloc (.cells arr ty)) :=
    Gh.add_ext hg (fun b hb => ⟨fun e => by have := hb.2.1; simp at e; omega, Below.heap_alloc w _ b hb.2.1⟩) (by simp)
  obtain ⟨hv, hok⟩ := hn (G.add s ⟨w.heap.size, 0, obEsz ob, g, arr.size⟩) (by simp [Gh.add]) (.inr ⟨rfl, rfl⟩) h.hB hext
  refine ⟨G.add s ⟨w.heap.size, 0, obEsz ob, g, arr.size⟩, .inr ⟨rfl, rfl⟩, hv, h.change (h.past.alloc h.hB _) rfl rfl (fun s' g' hg' => hg'.elim (fun h1 => hV _ (h.used _ _ h1)) (fun h1 => h1.2 ▸ hVg)) hext (by simp) (by simp [Gh.add]) (fun s' e => by simp [Gh.add, e]) hok (.inr ⟨rfl, rfl⟩)
    (fun s' L' e hl => ?_) (.inl ⟨h.hB, hmt⟩), hext, fun s' g' hg' => hg'⟩
  obtain ⟨ob', ho⟩ := h.loc s' L' hl
  obtain ⟨L2, hL2, hok2, _⟩ := h.own s' ob' ho
  rw [hl] at hL2
  obtain rfl := Option.some.inj hL2
  have := hok2.lt
  exact ⟨by simp; omega, Below.heap_alloc w _ _ this⟩

theorem Past.setRow {B : Nat} (h : Past B M w0 w) {b : Nat} {cur arr : Array Value} {ty : TypeId} (hb : w.heap[b]? = some (.cells cur ty (0, 0)))
    (hs : arr.size = cur.size) (ho : B ≤ b ∨ ∃ m, M b = some m ∧ ∀ j, (j < m.lo ∨ m.hi ≤ j) → arr[j]? = cur[j]?) : Past B M w0 (w.setRow b arr) := by
  refine ⟨h.os, h.tape, h.output, by rw [World.setRow]; simpa using h.size, fun k hk hm => ?_, fun k m hm => ⟨(h.may k m hm).1, ?_⟩⟩
  · have : k ≠ b := by
      rintro rfl
      rcases ho with h1 | ⟨m, h1, _⟩
      · omega
      · rw [hm] at h1; cases h1
    rw [setRow_other w b k arr this]
    exact h.block k hk hm
  · obtain ⟨hlt, c, h1, h2, h3⟩ := h.may k m hm
    by_cases hkb : k = b
    · subst hkb
      rw [hb] at h1
      injection h1 with h1
      injection h1 with e1 e2 e3
      subst e1; subst e2
      refine ⟨arr, setRow_heap w k _ arr _ _ hb, by rw [hs, h2], fun j hj => ?_⟩
      rcases ho with h1 | ⟨m', h1, h4⟩
      · omega
      · rw [hm] at h1
        obtain rfl := Option.some.inj h1
        rw [h4 j hj, h3 j hj]
    · exact ⟨c, by rw [setRow_other w b k arr hkb]; exact h1, h2, h3⟩

/-- A block of ours is written (and may get a new generation). -/
theorem Rel.write (h : Rel X G V A0 M w0 n σ a w) {s g : Nat} {ob ob' : OB} {L : Loc} {cur arr : Array Value} {ty : TypeId} {V' : Nat → Prop}
    (ho : σ.own s = some ob) (hL : G.loc s = some L) (hb : w.heap[L.blk]? = some (.cells cur ty (0, 0))) (hs : arr.size = cur.size)
    (hmt : ob'.mt = ob.mt) (hlen : obLen ob' ≤ obLen ob ∨ (G.B ≤ L.blk ∧ ob.mt = false)) (hout : ∀ j, (j < L.base ∨ L.base + obLen ob ≤ j) → G.B ≤ L.blk ∨ arr[j]? = cur[j]?)
    (hg : g = L.gen ∨ ¬ G.U s g) (hV : ∀ g', V g' → V' g') (hVg : V' g)
    (hok : ∀ G', Ext G w G' (w.setRow L.blk arr) → G'.B = G.B → OwnOk G' (w.setRow L.blk arr) { L with gen := g } ob') :
    ∃ G', G'.loc s = some { L with gen := g } ∧ G'.U s g ∧ Rel X G' V' A0 M w0 n (σ.setOwn s (some ob')) a (w.setRow L.blk arr) ∧ Ext G w G' (w.setRow L.blk arr) := by
  have hFne : ∀ b, G.F w b → L.blk ≠ b := fun b hb => hb.2.2 s L hL
  have hF : ∀ b, G.F w b → (w.setRow L.blk arr).heap[b]? = w.heap[b]? := fun b hb => setRow_other w _ b arr (fun e => hFne b hb e.symm)
  have hszw : (w.setRow L.blk arr).heap.size = w.heap.size := by rw [World.setRow]; simp
  have hLU : G.U s L.gen := by
    obtain ⟨L2, hL2, _, hu⟩ := h.own s ob ho
    rw [hL] at hL2
    obtain rfl := Option.some.inj hL2
    exact hu
  have hext : Ext G w (G.add s { L with gen := g }) (w.setRow L.blk arr) := by
    refine ⟨fun s g hg => .inl hg, rfl, fun s' L' hl => ?_, fun b hb => ⟨⟨hb.1, by rw [hszw]; exact hb.2.1, fun s' L' hl => ?_⟩, hF b hb⟩⟩
    · simp only [Gh.add] at hl
      split at hl
      · rename_i e
        obtain rfl := Option.some.inj hl
        subst e
        rcases hg with rfl | hg
        · exact .inl hL
        · exact .inr hg
      · exact .inl hl
    · simp only [Gh.add] at hl
      split at hl
      · obtain rfl := Option.some.inj hl; exact hFne b hb
      · exact hb.2.2 s' L' hl
  have hold := h.old s L ob hL ho
  refine ⟨G.add s { L with gen := g }, by simp [Gh.add], .inr ⟨rfl, rfl⟩, h.change (L := { L with gen := g }) (h.past.setRow hb hs ?_) rfl rfl (fun s' g' hg' => hg'.elim (fun h1 => hV _ (h.used _ _ h1)) (fun h1 => h1.2 ▸ hVg)) hext (by rw [hszw]; exact Nat.le_refl _) (by simp [Gh.add]) (fun s' e => by simp [Gh.add, e]) (hok _ hext rfl) (.inr ⟨rfl, rfl⟩)
    (fun s' L' e hl => ?_) ?_, hext⟩
  · rcases hold with ⟨h1, _⟩ | ⟨m, h1, h2, h3⟩
    · exact .inl h1
    · by_cases hBb : G.B ≤ L.blk
      · exact .inl hBb
      · refine .inr ⟨m, h1, fun j hj => (hout j ?_).resolve_left hBb⟩
        omega
  · have hne := h.inj s' s L' L hl hL e
    exact ⟨hne, setRow_other w _ _ arr hne⟩
  · rcases hold with ⟨h1, h2⟩ | ⟨m, h1, h2, h3⟩
    · exact .inl ⟨h1, hmt.trans h2⟩
    · rcases hlen with hl | ⟨hl, hl'⟩
      · exact .inr ⟨m, h1, h2, by simp only; omega⟩
      · exact .inl ⟨hl, hmt.trans hl'⟩

/-- Blocks are forgotten; slots too. -/
theorem Rel.forget (h : Rel X G V A0 M w0 n σ a w) {σ' : St} (he : ∀ t, σ'.env t = σ.env t ∨ σ'.env t = .junk) (ho : ∀ s, σ'.own s = σ.own s ∨ σ'.own s = none) :
    ∃ G', Rel X G' V A0 M w0 n σ' a w ∧ Ext G w G' w ∧ G'.B = G.B ∧ G'.A = G.A ∧ (∀ s L, G'.loc s = some L → G.loc s = some L) ∧ (∀ s ob, σ'.own s = some ob → G'.loc s = G.loc s) := by
  let G' : Gh := { G with loc := fun s => if (σ'.own s).isSome then G.loc s else none }
  have hloc : ∀ s L, G'.loc s = some L → G.loc s = some L ∧ ∃ ob, σ'.own s = some ob := by
    intro s L hl
    simp only [G'] at hl
    split at hl
    · rename_i hs; exact ⟨hl, Option.isSome_iff_exists.1 hs⟩
    · cases hl
  have hext : Ext G w G' w := ⟨fun _ _ h => h, rfl, fun s L hl => .inl (hloc s L hl).1, fun b hb => ⟨⟨hb.1, hb.2.1, fun s L hl => hb.2.2 s L (hloc s L hl).1⟩, rfl⟩⟩
  refine ⟨G', ⟨h.past, h.isB, h.isA, h.hB, h.hA, h.used, ⟨h.defers.1.ext hext, h.defers.2⟩, h.tmps, fun t => ?_, fun s ob hs => ?_, fun s L hl => (hloc s L hl).2, fun s s' L L' h1 h2 => h.inj s s' L L' (hloc s L h1).1 (hloc s' L' h2).1, fun s L ob hl ho' => ?_, fun f hf => (h.aux f hf).ext hext⟩, hext, rfl, rfl, fun s L hl => (hloc s L hl).1, fun s ob hs => by simp [G', hs]⟩
  · rcases he t with e | e
    · rw [e]; exact (h.env t).ext hext
    · rw [e]; exact .junk _
  · have hs' : σ.own s = some ob := by
      rcases ho s with e | e
      · rw [← e]; exact hs
      · rw [e] at hs; cases hs
    obtain ⟨L, hL, hok, hu⟩ := h.own s ob hs'
    exact ⟨L, by simp [G', hs, hL], hok.ext hext rfl, hu⟩
  · obtain ⟨hl', _⟩ := hloc s L hl
    refine h.old s L ob hl' ?_
    rcases ho s with e | e
    · rw [← e]; exact ho'
    · rw [e] at ho'; cases ho'

theorem Rel.drew (h : Rel X G V A0 M w0 n σ a w) : Rel X G V A0 M w0 n σ a w.drew := by
  have hext : Ext G w G w.drew := ⟨fun _ _ h => h, rfl, fun _ _ h => .inl h, fun b hb => ⟨hb, rfl⟩⟩
  exact ⟨h.past.drew, h.isB, h.isA, h.hB, h.hA, h.used, ⟨h.defers.1.ext hext, h.defers.2⟩, h.tmps, fun t => (h.env t).ext hext, fun s ob ho => let ⟨L, h1, h2, h3⟩ := h.own s ob ho; ⟨L, h1, h2.ext hext rfl, h3⟩, h.loc, h.inj, h.old, fun f hf => (h.aux f hf).ext hext⟩

end
end Go.Dv

/-
  DERIVED, MY OWN. OPERATIONS WITH EFFECT: store, append, copy.
-/

set_option autoImplicit false
namespace Go.Dv
open Go Go.RowKit

/-! ### what they do -/
def byteCells (s : ByteArray) : List (List Data) := s.data.toList.map fun b => [.val (.int .u8 b.toNat)]

/-- The elements of a slice (or the bytes of a string), for copying. -/
def newsOf (P : Program) (σ : St) (e : TypeId) (y : AV) : Option (List (List Data) × Bool) :=
  match y with
  | .d (.sl _ ys) fr => if (ys.all fun c => c.length == szOf P e) then some (ys, fr) else none
  | .rs s g off len =>
    match σ.own s with
    | some (.row _ esz g' _ _ fr xs) => if g' = g ∧ esz = szOf P e ∧ off + len ≤ xs.length then some ((xs.drop off).take len, fr) else none
    | _ => none
  | .d (.val (.string s)) _ => if szOf P e = 1 then some (byteCells s, true) else none
  | _ => none

def storeAV (P : Program) (σ : St) (t : TypeId) (p v : AV) : Option St :=
  let cs := cellsAV v
  if cs.length = szOf P t ∧ (P.info? t).isSome then
    match p with
    | .rp s g i k =>
      match σ.own s with
      | some (.row ty esz g' app mt fr xs) =>
        if g' = g then
          match xs[i]?, datas cs with
          | some c, some (ds, fr') =>
            if k + ds.length ≤ c.length then
              some (σ.setOwn s (some (.row ty esz g' app mt (fr && fr') (xs.set i (c.take k ++ ds ++ c.drop (k + ds.length))))))
            else none
          | _, _ => none
        else none
      | some (.var ty g' mt c0) =>
        if g' = g ∧ i = 0 ∧ onesB cs = true ∧ k + cs.length ≤ c0.length then
          some (σ.setOwn s (some (.var ty g' mt (c0.take k ++ cs ++ c0.drop (k + cs.length)))))
        else none
      | _ => none
    | _ => none
  else none

def appendAV (P : Program) (σ : St) (s g : Nat) (t : TypeId) (x y : AV) : Option (AV × St) :=
  match P.underlying t with
  | some (.slice e) =>
    if (zeroRow P e 0).isSome then
      match newsOf P σ e y with
      | none => none
      | some (ys, fr') =>
        match x with
        | .d (.sl true []) _ =>
          if ys = [] then some (.d (.sl true []) true, σ)
          else if ys.length ≤ 140737488355328 ∧ ys.length * bytesOf P e ≤ 140737488355328 then
            some (.rs s g 0 ys.length, σ.setOwn s (some (.row e (szOf P e) g true false fr' ys)))
          else none
        | .rs s0 g0 off len =>
          match σ.own s0 with
          | some (.row ty esz g' app mt fr xs) =>
            if g' = g0 ∧ esz = szOf P e ∧ ty = e ∧ app = true ∧ off = 0 ∧ len = xs.length ∧ xs.length + ys.length ≤ 140737488355328 ∧ (xs.length + ys.length) * bytesOf P e ≤ 140737488355328 then
              some (.rs s0 g 0 (xs.length + ys.length), σ.setOwn s0 (some (.row ty esz g app mt (fr && fr') (xs ++ ys))))
            else none
          | _ => none
        | _ => none
    else none
  | _ => none

def copyAV (P : Program) (σ : St) (t : TypeId) (x y : AV) : Option (AV × St) :=
  match P.underlying t with
  | some (.slice e) =>
    if 0 < szOf P e then
      match newsOf P σ e y with
      | none => none
      | some (ys, fr') =>
        match x with
        | .rs s0 g0 off len =>
          match σ.own s0 with
          | some (.row ty esz g' app mt fr xs) =>
            if g' = g0 ∧ esz = szOf P e ∧ off + len ≤ xs.length then
              some (.d (.val (.int .i64 (min ys.length len : Nat))) true,
                σ.setOwn s0 (some (.row ty esz g' app mt (fr && fr') (xs.take off ++ ys.take (min ys.length len) ++ xs.drop (off + min ys.length len)))))
            else none
          | _ => none
        | _ => none
    else none
  | _ => none

section
variable {P : Program} {G : Gh} {V : Nat → Prop} {A0 : Nat → Prop} {M : Nat → Option MR} {w0 w : World} {X : Aux} {n : Nat} {σ : St} {a : Act}

/-! ### sources -/
/-- What stands in a source of elements. -/
def SrcOk (P : Program) (G : Gh) (w : World) (e : Nat) (fr : Bool) (ys : List (List Data)) (u : Value) : Prop :=
  (∀ w', (Builtin.lenOf u).run P w' = .ok ys.length w') ∧
  ∀ m, m ≤ ys.length → ∃ cells : Array Value, (∀ w', w'.heap = w.heap → (Builtin.firstCells e m u).run P w' = .ok cells w') ∧ RowR G w e fr 0 (ys.take m) cells ∧ cells.size = m * e ∧ ∀ v ∈ cells.toList, v.oneCell' = true

theorem cell?_heap {w w' : World} (h : w'.heap = w.heap) (a : Addr) : w'.cell? a = w.cell? a := by simp [World.cell?, h]

/-- Cells read one after another, as a row. -/
theorem cells_run {ad : Addr} {e : Nat} {fr : Bool} {ys : List (List Data)} (hlen : ∀ (i : Nat) c, ys[i]? = some c → c.length = e)
    (hc : ∀ (i : Nat) c, ys[i]? = some c → ∀ (k : Nat) d, c[k]? = some d → ∃ u, w.cell? (ad.add (i * e + k)) = some u ∧ VR G w (.d d fr) u) :
    ∀ m, m ≤ ys.length → ∃ cells : Array Value, (∀ w', w'.heap = w.heap → (loadCells ad (m * e)).run P w' = .ok cells w') ∧ RowR G w e fr 0 (ys.take m) cells ∧ cells.size = m * e ∧ ∀ v ∈ cells.toList, v.oneCell' = true := by
  intro m hm
  have key : ∀ j, j < m * e → ∃ u, w.cell? (ad.add j) = some u ∧ u.oneCell' = true := by
    intro j hj
    have he : 0 < e := by
      rcases Nat.eq_zero_or_pos e with h | h
      · subst h; simp at hj
      · exact h
    have hi : j / e < m := Nat.div_lt_of_lt_mul (by rw [Nat.mul_comm]; exact hj)
    have hi' : j / e < ys.length := by omega
    have hcl := hlen (j / e) _ (List.getElem?_eq_getElem hi')
    have hk : j % e < (ys[j / e]).length := by rw [hcl]; exact Nat.mod_lt _ he
    obtain ⟨u, hu, hv⟩ := hc (j / e) _ (List.getElem?_eq_getElem hi') (j % e) _ (List.getElem?_eq_getElem hk)
    rw [show j / e * e + j % e = j from by rw [Nat.mul_comm]; exact Nat.div_add_mod j e] at hu
    exact ⟨u, hu, hv.oneCell rfl⟩
  have hf : ∀ j, j < m * e → w.cell? (ad.add j) = some ((w.cell? (ad.add j)).getD undef) := fun j hj => by
    obtain ⟨u, hu, _⟩ := key j hj
    simp [hu]
  refine ⟨((List.range (m * e)).map fun j => (w.cell? (ad.add j)).getD undef).toArray, fun w' hw => ?_, ⟨by simp [Nat.min_eq_left hm], fun i c hi => ?_⟩, by simp, fun v hv => ?_⟩
  · exact run_loadCells (P := P) w' ad (m * e) (fun j => (w.cell? (ad.add j)).getD undef) (fun j hj => by rw [cell?_heap hw]; exact hf j hj)
  · rw [List.getElem?_take] at hi
    split at hi
    · rename_i him
      refine ⟨hlen i c hi, fun k d hk => ?_⟩
      have hkl : k < e := by have := (List.getElem?_eq_some_iff.1 hk).1; rw [hlen i c hi] at this; exact this
      have hlt := idx_lt hkl him
      obtain ⟨u, hu, hv⟩ := hc i c hi k d hk
      refine ⟨u, ?_, hv⟩
      simp [hlt, hu]
    · cases hi
  · simp at hv
    obtain ⟨j, hj, rfl⟩ := hv
    obtain ⟨u, hu, h1⟩ := key j hj
    simp [hu, h1]

theorem newsOf_sound {e : TypeId} {y : AV} {ys : List (List Data)} {fr : Bool} {u : Value}
    (hO : ∀ s ob, σ.own s = some ob → ∃ L, G.loc s = some L ∧ OwnOk G w L ob) (hy : VR G w y u) (h : newsOf P σ e y = some (ys, fr)) :
    SrcOk P G w (szOf P e) fr ys u ∧ ∀ c ∈ ys, c.length = szOf P e := by
  unfold newsOf at h
  split at h
  · rename_i nl xs fr'
    split at h
    · rename_i hall
      obtain ⟨rfl, rfl⟩ := Prod.mk.inj (Option.some.inj h)
      have hall' : ∀ c ∈ xs, c.length = szOf P e := fun c hc => by simpa using List.all_eq_true.1 hall c hc
      refine ⟨?_, hall'⟩
      cases hy with
      | d _ _ _ hr =>
        cases hr with
        | slNil =>
          refine ⟨fun w' => rfl, fun m hm => ⟨#[], fun w' _ => by simp [Builtin.firstCells], ⟨by simp, fun i c hi => by simp at hi⟩, ?_, by simp⟩⟩
          simp at hm
          simp [hm]
        | sl _ ad sz cap us hsz hcap hc hr =>
          refine ⟨fun w' => rfl, fun m hm => ?_⟩
          simp only [Builtin.firstCells]
          refine cells_run (fun i c hi => hall' c (List.mem_of_getElem? hi)) (fun i c hi k d hk => ?_) m hm
          have : sz = szOf P e := by rw [← hsz i c hi]; exact hall' c (List.mem_of_getElem? hi)
          subst this
          exact ⟨_, (hc i c hi k d hk).2, .d _ _ _ (hr i c hi k d hk)⟩
    · cases h
  · rename_i s g off len
    split at h
    · rename_i ty esz g' app mt fr' xs hs
      split at h
      · rename_i hge
        obtain ⟨rfl, he, hle⟩ := hge
        obtain ⟨rfl, rfl⟩ := Prod.mk.inj (Option.some.inj h)
        obtain ⟨L, hL, hok⟩ := hO s _ hs
        obtain ⟨hgn, ad, cap, rfl, hcap, had, hsize⟩ := hy.rs_live hL hok.gen_eq
        obtain ⟨h1, h2, h3, h3', arr, h4, h5, h6, h7⟩ := hok
        have hlen : ((xs.drop off).take len).length = len := by simp; omega
        have hwin : ∀ (i : Nat) c, ((xs.drop off).take len)[i]? = some c → i < len ∧ xs[off + i]? = some c := by
          intro i c hi
          rw [List.getElem?_take] at hi
          split at hi
          · rw [List.getElem?_drop] at hi; exact ⟨by assumption, hi⟩
          · cases hi
        refine ⟨⟨fun w' => by rw [hlen]; rfl, fun m hm => ?_⟩, fun c hc => ?_⟩
        · simp only [Builtin.firstCells]
          refine cells_run (fun i c hi => by rw [(h7 _ c (hwin i c hi).2).1, he]) (fun i c hi k d hk => ?_) m hm
          obtain ⟨hil, hx⟩ := hwin i c hi
          obtain ⟨v, hv, hvr⟩ := (h7 _ c hx).2 k d hk
          refine ⟨v, ?_, hvr⟩
          rw [had (by omega), addr_add, cell_of_arr h4, ← hv, h2, he, Nat.add_mul]
          congr 1
          omega
        · obtain ⟨i, hi⟩ := List.getElem?_of_mem hc
          rw [(h7 _ c (hwin i c hi).2).1, he]
      · cases h
    · cases h
  · rename_i s fr'
    split at h
    · rename_i he
      obtain ⟨rfl, rfl⟩ := Prod.mk.inj (Option.some.inj h)
      obtain ⟨rfl, _⟩ := hy.val_inv
      rw [he]
      have hsz : (byteCells s).length = s.size := by simp [byteCells]
      have hext : ∀ m, (s.extract 0 m).data.map (fun b => Value.int .u8 b.toNat) = ((s.data.toList.take m).map fun b => Value.int .u8 b.toNat).toArray := by
        intro m
        apply Array.ext'
        simp [List.map_take]
      refine ⟨⟨fun w' => by rw [hsz]; rfl, fun m hm => ⟨((s.data.toList.take m).map fun b => Value.int .u8 b.toNat).toArray, fun w' _ => by rw [← hext]; rfl, ⟨?_, fun i c hi => ?_⟩, ?_, fun v hv => ?_⟩⟩, fun c hc => ?_⟩
      · simp [hsz] at hm ⊢
      · rw [List.getElem?_take] at hi
        split at hi
        · rename_i him
          simp only [byteCells, List.getElem?_map] at hi
          cases hb : s.data.toList[i]? with
          | none => rw [hb] at hi; simp at hi
          | some b =>
            rw [hb] at hi
            simp at hi
            subst hi
            refine ⟨rfl, fun k d hk => ?_⟩
            match k with
            | 0 =>
              simp at hk
              subst hk
              refine ⟨.int .u8 b.toNat, ?_, VR.mk_val rfl⟩
              have hb' : s.data[i]? = some b := by simpa using hb
              simp [him, hb']
            | k + 1 => simp at hk
        · cases hi
      · simp [hsz] at hm ⊢
        exact Nat.min_eq_left hm
      · simp only [List.mem_map] at hv
        obtain ⟨b, _, rfl⟩ := hv
        rfl
      · simp [byteCells] at hc
        obtain ⟨b, _, rfl⟩ := hc
        rfl
    · cases h
  · cases h

/-! ### store -/
theorem one_splice {L : Nat} {arr : Array Value} {ty : TypeId} {p : Nat × Nat} {vs : List Value} {o : Nat} (h : OneBlk w L) (h4 : w.heap[L]? = some (.cells arr ty p)) (hb : o + vs.length ≤ arr.size) (hone : ∀ v ∈ vs, v.oneCell' = true) :
    OneBlk (w.setRow L (arr.toList.take o ++ vs ++ arr.toList.drop (o + vs.length)).toArray) L := by
  refine .mk (setRow_heap w L arr _ ty p h4) fun j u hj => ?_
  simp only [List.getElem?_toArray] at hj
  rw [get_splice _ _ _ _ (by simp; omega)] at hj
  split at hj
  · exact hone u (List.mem_of_getElem? hj)
  · exact h arr ty p h4 j u (by simpa using hj)

theorem RowR.ext {G' : Gh} {w' : World} {e base : Nat} {fr : Bool} {xs : List (List Data)} {arr : Array Value} (h : RowR G w e fr base xs arr) (hx : Ext G w G' w') : RowR G' w' e fr base xs arr :=
  ⟨h.1, fun i c hi => ⟨(h.2 i c hi).1, fun k d hk => let ⟨u, hu, hv⟩ := (h.2 i c hi).2 k d hk; ⟨u, hu, hv.ext hx⟩⟩⟩

theorem splice_size (arr : Array Value) (vs : List Value) (o : Nat) (h : o + vs.length ≤ arr.size) :
    (arr.toList.take o ++ vs ++ arr.toList.drop (o + vs.length)).toArray.size = arr.size := by
  simp; omega

theorem splice_get (arr : Array Value) (vs : List Value) (o k : Nat) (h : o + vs.length ≤ arr.size) :
    (arr.toList.take o ++ vs ++ arr.toList.drop (o + vs.length)).toArray[k]? = if o ≤ k ∧ k < o + vs.length then vs[k - o]? else arr[k]? := by
  have := get_splice arr.toList vs o k (by simp; omega)
  simpa using this

/-- Cells as data: what is laid into a row. -/
def DR (G : Gh) (w : World) (fr : Bool) (ds : List Data) (vs : List Value) : Prop :=
  vs.length = ds.length ∧ ∀ (j : Nat) d, ds[j]? = some d → ∃ u, vs[j]? = some u ∧ VR G w (.d d fr) u

theorem RowR.setPart {e base : Nat} {fr fr' : Bool} {xs : List (List Data)} {arr : Array Value} (h : RowR G w e fr base xs arr) {i k : Nat} {c ds : List Data} {vs : List Value}
    (hi : xs[i]? = some c) (hk : k + ds.length ≤ c.length) (hd : DR G w fr' ds vs) :
    base + (i * e + k) + vs.length ≤ arr.size ∧ RowR G w e (fr && fr') base (xs.set i (c.take k ++ ds ++ c.drop (k + ds.length)))
      (arr.toList.take (base + (i * e + k)) ++ vs ++ arr.toList.drop (base + (i * e + k) + vs.length)).toArray := by
  obtain ⟨h1, h2⟩ := h
  obtain ⟨hcl, hcd⟩ := h2 i c hi
  have hil : i < xs.length := (List.getElem?_eq_some_iff.1 hi).1
  have hbound : base + (i * e + k) + vs.length ≤ arr.size := by
    have : (i + 1) * e ≤ xs.length * e := Nat.mul_le_mul_right _ hil
    rw [Nat.add_mul] at this
    rw [hd.1]
    omega
  refine ⟨hbound, by rw [splice_size _ _ _ hbound]; simpa using h1, fun j c' hj => ?_⟩
  rw [List.getElem?_set] at hj
  split at hj
  · rename_i hij
    subst hij
    obtain rfl := Option.some.inj hj
    refine ⟨by simp; omega, fun q d hq => ?_⟩
    rw [get_splice _ _ _ _ (by omega)] at hq
    rw [splice_get _ _ _ _ hbound]
    by_cases hqk : k ≤ q ∧ q < k + ds.length
    · rw [if_pos hqk] at hq
      obtain ⟨u, hu, hv⟩ := hd.2 _ d hq
      refine ⟨u, ?_, hv.weaken fun h => by simp at h; exact h.2⟩
      rw [if_pos (by rw [hd.1]; omega), show base + (i * e + q) - (base + (i * e + k)) = q - k from by omega]
      exact hu
    · rw [if_neg hqk] at hq
      obtain ⟨u, hu, hv⟩ := hcd q d hq
      refine ⟨u, ?_, hv.weaken fun h => by simp at h; exact h.1⟩
      rw [if_neg (by rw [hd.1]; omega)]
      exact hu
  · rename_i hij
    obtain ⟨hcl', hcd'⟩ := h2 j c' hj
    refine ⟨hcl', fun q d hq => ?_⟩
    obtain ⟨u, hu, hv⟩ := hcd' q d hq
    have hql : q < e := by have := (List.getElem?_eq_some_iff.1 hq).1; omega
    refine ⟨u, ?_, hv.weaken fun h => by simp at h; exact h.1⟩
    rw [splice_get _ _ _ _ hbound, if_neg]
    · exact hu
    · intro ⟨ha, hb⟩
      rw [hd.1] at hb
      rcases Nat.lt_or_gt_of_ne hij with hlt | hgt
      · have h2 : (i + 1) * e ≤ j * e := Nat.mul_le_mul_right _ hlt
        rw [Nat.add_mul] at h2
        omega
      · have := idx_lt hql hgt
        omega

theorem datas_dr {cs : List AV} {ds : List Data} {fr : Bool} {vs : Array Value} (hd : datas cs = some (ds, fr)) (hc : CR G w cs vs) : DR G w fr ds vs.toList := by
  obtain ⟨h1, h2⟩ := datas_get hd
  refine ⟨by simp [hc.1, h1], fun j d hj => ?_⟩
  obtain ⟨fr', hcs, hf⟩ := h2 j d hj
  obtain ⟨u, hu, _, hv⟩ := hc.2 j _ hcs
  exact ⟨u, by simpa using hu, hv.weaken hf⟩

theorem storeAV_sound (h : Rel X G V A0 M w0 n σ a w) {t : TypeId} {p v : AV} {up uv : Value} {σ' : St} (hp : VR G w p up) (hv : VR G w v uv)
    (hs : storeAV P σ t p v = some σ') : ∃ w' G', (Instr.storeAt t up uv).run P w = .ok () w' ∧ Rel X G' V A0 M w0 n σ' a w' ∧ Ext G w G' w' := by
  unfold storeAV at hs
  simp only at hs
  split at hs
  · rename_i hlen
    obtain ⟨hlen, hinfo⟩ := hlen
    obtain ⟨inf, hinf⟩ := Option.isSome_iff_exists.1 hinfo
    split at hs
    · rename_i s g i k
      split at hs
      · rename_i ty esz g' app mt fr xs ho
        split at hs
        · rename_i hg
          subst hg
          split at hs
          · rename_i c ds fr' hc hds
            split at hs
            · rename_i hk
              obtain rfl := Option.some.inj hs
              obtain ⟨L, hL, hok, hLU⟩ := h.own s _ ho
              obtain ⟨hgn, rfl⟩ := hp.rp_live hL hok.gen_eq
              have hok0 := hok
              obtain ⟨h1, h2, h3, h3', arr, h4, h5, h6, h7⟩ := hok
              subst h2
              have hcr := cells_cr hv (datas_ones hds)
              have hdr := datas_dr hds hcr
              have hrow : RowR G w L.esz fr L.base xs arr := ⟨by rw [h5]; exact h6, h7⟩
              obtain ⟨hb, hrow'⟩ := hrow.setPart hc hk hdr
              have hone : ∀ x ∈ uv.cells.toList, x.oneCell' = true := by
                intro x hx
                obtain ⟨j, hj⟩ := List.getElem?_of_mem hx
                have hjl : j < (cellsAV v).length := by have := (List.getElem?_eq_some_iff.1 hj).1; simp [hcr.1] at this; exact this
                obtain ⟨y, hy, h1, _⟩ := hcr.2 j _ (List.getElem?_eq_getElem hjl)
                simp at hj
                rw [hy] at hj
                obtain rfl := Option.some.inj hj
                exact h1
              have hst := run_storeCells_at P L.blk (L.base + (i * L.esz + k)) ty uv.cells.toList 0 arr w h4 (by simpa using hb) hone
              simp only [Nat.add_zero] at hst
              have hil : i < xs.length := (List.getElem?_eq_some_iff.1 hc).1
              have hcl : c.length = L.esz := (h7 i c hc).1
              have hdl : ds.length = uv.cells.toList.length := hdr.1.symm
              obtain ⟨G', hl', hu', hrel, hext⟩ := h.write (V' := V) (g := L.gen) (ob' := .row ty L.esz g' app mt (fr && fr') (xs.set i (c.take k ++ ds ++ c.drop (k + ds.length)))) ho hL h4 (splice_size arr uv.cells.toList _ hb) rfl
                (.inl (by simp [obLen])) (fun j hj => .inr (by
                  rw [splice_get _ _ _ _ hb, if_neg]
                  have : (i + 1) * L.esz ≤ xs.length * L.esz := Nat.mul_le_mul_right _ hil
                  rw [Nat.add_mul] at this
                  simp only [obLen] at hj
                  omega)) (.inl rfl) (fun _ h => h) (h.used _ _ hLU)
                (fun G' hx hB => ⟨h1, rfl, fun hm => hB ▸ h3 hm, fun ha => ⟨(h3' ha).1, (h3' ha).2.1, one_splice (h3' ha).2.2 h4 hb hone⟩, _, setRow_heap w L.blk arr _ ty _ h4, by rw [splice_size _ _ _ hb]; exact h5, by simpa using h6, (hrow'.ext hx).2⟩)
              refine ⟨_, G', ?_, hrel, hext⟩
              have hsz : uv.cells.size = szOf P t := by rw [hcr.1, hlen]
              simp [Instr.storeAt, Instr.sureAddr, storeVar, run_sizeOf' hinf, hsz, hst]
            · cases hs
          · cases hs
        · cases hs
      · rename_i ty g' mt c0 ho
        split at hs
        · rename_i hg
          obtain ⟨rfl, rfl, hones, hk⟩ := hg
          obtain rfl := Option.some.inj hs
          obtain ⟨L, hL, hok, hLU⟩ := h.own s _ ho
          obtain ⟨hgn, rfl⟩ := hp.rp_live hL hok.gen_eq
          obtain ⟨h1, h2, h3, arr, h4, h5, h6, h7⟩ := hok
          have hcr := cells_cr hv hones
          have hone : ∀ x ∈ uv.cells.toList, x.oneCell' = true := by
            intro x hx
            obtain ⟨j, hj⟩ := List.getElem?_of_mem hx
            have hjl : j < (cellsAV v).length := by have := (List.getElem?_eq_some_iff.1 hj).1; simp [hcr.1] at this; exact this
            obtain ⟨y, hy, h1, _⟩ := hcr.2 j _ (List.getElem?_eq_getElem hjl)
            simp at hj
            rw [hy] at hj
            obtain rfl := Option.some.inj hj
            exact h1
          have hvl : uv.cells.toList.length = (cellsAV v).length := by simp [hcr.1]
          have hb : L.base + (0 * L.esz + k) + uv.cells.toList.length ≤ arr.size := by rw [hvl, h5]; omega
          have hst := run_storeCells_at P L.blk (L.base + (0 * L.esz + k)) ty uv.cells.toList 0 arr w h4 (by simpa using hb) hone
          simp only [Nat.add_zero] at hst
          obtain ⟨G', hl', hu', hrel, hext⟩ := h.write (V' := V) (g := L.gen) (ob' := .var ty g' mt (c0.take k ++ cellsAV v ++ c0.drop (k + (cellsAV v).length))) ho hL h4 (splice_size arr uv.cells.toList _ hb) rfl
            (.inl (by simp [obLen]; omega)) (fun j hj => .inr (by
              rw [splice_get _ _ _ _ hb, if_neg]
              simp only [obLen] at hj
              rw [hvl]
              omega)) (.inl rfl) (fun _ h => h) (h.used _ _ hLU)
            (fun G' hx hB => ⟨h1, by rw [h2]; simp; omega, fun hm => hB ▸ h3 hm, _, setRow_heap w L.blk arr _ ty _ h4, by rw [splice_size _ _ _ hb]; exact h5, by simp; omega, fun q b hq => by
              rw [get_splice _ _ _ _ (by omega)] at hq
              show ∃ u, _[L.base + q]? = some u ∧ _
              rw [splice_get _ _ _ _ hb]
              by_cases hqk : k ≤ q ∧ q < k + (cellsAV v).length
              · rw [if_pos hqk] at hq
                obtain ⟨u, hu, h1', hvr⟩ := hcr.2 _ b hq
                exact ⟨u, by rw [if_pos (by omega), show L.base + q - (L.base + (0 * L.esz + k)) = q - k from by omega]; simpa using hu, hvr.ext hx, h1'⟩
              · rw [if_neg hqk] at hq
                obtain ⟨u, hu, hvr, h1'⟩ := h7 q b hq
                exact ⟨u, by rw [if_neg (by omega)]; exact hu, hvr.ext hx, h1'⟩⟩)
          refine ⟨_, G', ?_, hrel, hext⟩
          have hsz : uv.cells.size = szOf P t := by rw [hcr.1, hlen]
          simp only [Instr.storeAt, Instr.sureAddr, storeVar, Sem.run_bind, Sem.run_pure, Result.andThen_ok, run_sizeOf' hinf]
          rw [if_neg (by simp [hsz])]
          exact hst
        · cases hs
      · cases hs
    · cases hs
  · cases hs

end
end Go.Dv

/-
  DERIVED, MY OWN. append AND copy, HELD AGAINST THE MACHINE.
-/

set_option autoImplicit false
namespace Go.Dv
open Go Go.RowKit

def notInt (P : Program) (t : TypeId) : Bool :=
  match P.underlying t with
  | some .string => true
  | some (.slice _) => true
  | _ => false

section
variable {P : Program} {G : Gh} {V : Nat → Prop} {A0 : Nat → Prop} {M : Nat → Option MR} {w0 w : World} {X : Aux} {n : Nat} {σ : St} {a : Act}

theorem notInt_cases {t : TypeId} (h : notInt P t = true) : P.underlying t = some .string ∨ ∃ e, P.underlying t = some (.slice e) := by
  unfold notInt at h
  split at h
  · exact .inl (by assumption)
  · rename_i e hu; exact .inr ⟨e, hu⟩
  · cases h

theorem run_append_room' {t t2 ty e : TypeId} {inf : TypeInfo} {m sLen sCap : Nat} {base : Option Addr} {uy : Value} {cells : Array Value} {w' : World}
    (ht : P.underlying t = some (.slice e)) (h2 : notInt P t2 = true) (hi : P.info? e = some inf) (hl : (Builtin.lenOf uy).run P w = .ok m w)
    (hc : (Builtin.firstCells (szOf P e) m uy).run P w = .ok cells w) (hroom : sLen + m ≤ sCap)
    (hst : (match base with | some ad => storeCells (ad.add (sLen * szOf P e)) cells.toList | none => (pure () : Sem Unit)).run P w = .ok () w') :
    (Builtin.append_ #[t, t2] ty #[.slice base sLen sCap, uy]).run P w = .ok (.slice base (sLen + m) sCap) w' := by
  rcases notInt_cases h2 with hd | ⟨e2, hd⟩ <;>
  · simp [Builtin.append_, run_underlying ht, run_underlying hd, run_sizeOf' hi, hl, hroom, hc]
    cases base with
    | none => simp at hst ⊢; exact hst
    | some ad => simp [hst]

theorem run_append_grow' {t t2 ty e : TypeId} {inf : TypeInfo} {z : Value} {m sLen sCap : Nat} {base : Option Addr} {uy : Value} {olds cells : Array Value}
    (ht : P.underlying t = some (.slice e)) (h2 : notInt P t2 = true) (hi : P.info? e = some inf) (hz : inf.zero = some z) (hl : (Builtin.lenOf uy).run P w = .ok m w)
    (hc : ∀ w', w'.heap = w.heap → (Builtin.firstCells (szOf P e) m uy).run P w' = .ok cells w')
    (ho : ∀ w', w'.heap = w.heap → (Builtin.firstCells (szOf P e) sLen (.slice base sLen sCap)).run P w' = .ok olds w') (hroom : sCap < sLen + m)
    (h63 : sLen + m ≤ 140737488355328) (hb : (sLen + m) * bytesOf P e ≤ 140737488355328) :
    ∃ cap, sLen + m ≤ cap ∧ (Builtin.append_ #[t, t2] ty #[.slice base sLen sCap, uy]).run P w =
      .ok (.slice (some ⟨w.heap.size, 0, none⟩) (sLen + m) cap) (w.drew.alloc (.cells (olds ++ cells ++ Builtin.zeroCells z.cells (cap - (sLen + m))) e)) := by
  have hby : inf.bytes = bytesOf P e := by simp [bytesOf, Program.bytesOf, hi]
  have hfit := growslice_fits (need := sLen + m) (old := sCap) (bytes := inf.bytes) hroom (by rw [hby]; exact hb)
  refine ⟨grownCap w (sLen + m) sCap e, grownCap_ge _ _ _ _, ?_⟩
  have hm : IntKind.i64.max = 9223372036854775807 := rfl
  have h1 : ¬ ((sLen + m : Nat) : Int) > 9223372036854775807 := by omega
  have hd1 : (Builtin.firstCells (szOf P e) sLen (.slice base sLen sCap)).run P w.drew = .ok olds w.drew := ho _ rfl
  have hd2 : (Builtin.firstCells (szOf P e) m uy).run P w.drew = .ok cells w.drew := hc _ rfl
  have hn : ¬ (sLen + m ≤ sCap) := by omega
  have h48 : ¬ (Builtin.nextslicecap (sLen + m) sCap * inf.bytes > 2 ^ 48) := by simp; omega
  rcases notInt_cases h2 with hd | ⟨e2, hd⟩ <;>
  · simp only [Builtin.append_, run_underlying ht, run_underlying hd, run_sizeOf' hi, hl, Sem.run_bind, Result.andThen_ok, Sem.run_pure, Bool.false_eq_true, if_false,
      List.getElem?_toArray, List.getElem?_cons_zero, List.getElem?_cons_succ]
    rw [if_neg hn]
    simp only [typeInfo, run_program, hi, Sem.run_bind, Result.andThen_ok, Sem.run_pure, hm, h1, false_and, if_false]
    rw [if_neg h48]
    simp only [Sem.run_bind, run_choose, Question.forced, Bool.false_eq_true, if_false, Result.andThen_ok, run_askRoom]
    simp [hd1, hd2, zeroValue, typeInfo, hi, hz, newRow, grownCap]

theorem one_list {a : Array Value} (h : ∀ v ∈ a.toList, v.oneCell' = true) : ∀ (j : Nat) u, a[j]? = some u → u.oneCell' = true :=
  fun j u hj => h u (List.mem_of_getElem? (by simpa using hj))
theorem one_app {a b : Array Value} (h1 : ∀ (j : Nat) u, a[j]? = some u → u.oneCell' = true) (h2 : ∀ (j : Nat) u, b[j]? = some u → u.oneCell' = true) : ∀ (j : Nat) u, (a ++ b)[j]? = some u → u.oneCell' = true := by
  intro j u hj
  rw [Array.getElem?_append] at hj
  split at hj
  · exact h1 _ u hj
  · exact h2 _ u hj

theorem zeroCells_size (z : Array Value) (n : Nat) : (Builtin.zeroCells z n).size = n * z.size := by simp [Builtin.zeroCells]

theorem RowR.append {e base : Nat} {fr fr' : Bool} {xs ys : List (List Data)} {a1 a2 rest : Array Value} (h1 : RowR G w e fr base xs a1) (h2 : RowR G w e fr' 0 ys a2) (hs : a1.size = base + xs.length * e) :
    RowR G w e (fr && fr') base (xs ++ ys) (a1 ++ a2 ++ rest) := by
  refine ⟨by have := h2.1; simp [Nat.add_mul]; omega, fun i c hi => ?_⟩
  rw [List.getElem?_append] at hi
  split at hi
  · rename_i hil
    obtain ⟨l1, l2⟩ := h1.2 i c hi
    refine ⟨l1, fun k d hk => ?_⟩
    obtain ⟨u, hu, hv⟩ := l2 k d hk
    refine ⟨u, ?_, hv.weaken fun h => by simp at h; exact h.1⟩
    have := (Array.getElem?_eq_some_iff.1 hu).1
    rw [Array.append_assoc, Array.getElem?_append_left this]
    exact hu
  · rename_i hil
    obtain ⟨l1, l2⟩ := h2.2 _ c hi
    refine ⟨l1, fun k d hk => ?_⟩
    obtain ⟨u, hu, hv⟩ := l2 k d hk
    refine ⟨u, ?_, hv.weaken fun h => by simp at h; exact h.2⟩
    have h3 := (Array.getElem?_eq_some_iff.1 hu).1
    have hie : i * e = xs.length * e + (i - xs.length) * e := by rw [← Nat.add_mul]; congr 1; omega
    rw [Array.getElem?_append_left (by simp; omega), Array.getElem?_append_right (by omega), hs]
    rw [show base + (i * e + k) - (base + xs.length * e) = 0 + ((i - xs.length) * e + k) from by omega]
    exact hu

theorem RowR.extend {e : Nat} {fr fr' : Bool} {xs ys : List (List Data)} {arr cells : Array Value} (h1 : RowR G w e fr 0 xs arr) (h2 : RowR G w e fr' 0 ys cells) (hs : cells.size = ys.length * e)
    (hfit : xs.length * e + cells.toList.length ≤ arr.size) :
    RowR G w e (fr && fr') 0 (xs ++ ys) (arr.toList.take (xs.length * e) ++ cells.toList ++ arr.toList.drop (xs.length * e + cells.toList.length)).toArray := by
  refine ⟨by rw [splice_size _ _ _ hfit]; simp [Nat.add_mul]; simp [hs] at hfit; exact hfit, fun i c hi => ?_⟩
  rw [List.getElem?_append] at hi
  split at hi
  · rename_i hil
    obtain ⟨l1, l2⟩ := h1.2 i c hi
    refine ⟨l1, fun k d hk => ?_⟩
    obtain ⟨u, hu, hv⟩ := l2 k d hk
    have hkl : k < e := by have := (List.getElem?_eq_some_iff.1 hk).1; omega
    have := idx_lt hkl hil
    refine ⟨u, ?_, hv.weaken fun h => by simp at h; exact h.1⟩
    rw [splice_get _ _ _ _ hfit, if_neg (by omega)]
    exact hu
  · rename_i hil
    obtain ⟨l1, l2⟩ := h2.2 _ c hi
    refine ⟨l1, fun k d hk => ?_⟩
    obtain ⟨u, hu, hv⟩ := l2 k d hk
    have h3 := (Array.getElem?_eq_some_iff.1 hu).1
    have hie : i * e = xs.length * e + (i - xs.length) * e := by rw [← Nat.add_mul]; congr 1; omega
    refine ⟨u, ?_, hv.weaken fun h => by simp at h; exact h.2⟩
    rw [splice_get _ _ _ _ hfit, if_pos (by simp; omega), show 0 + (i * e + k) - xs.length * e = 0 + ((i - xs.length) * e + k) from by omega]
    simpa using hu

theorem appendAV_sound (h : Rel X G V A0 M w0 n σ a w) {s g : Nat} {t t2 ty : TypeId} {x y v : AV} {ux uy : Value} {σ' : St} {V' : Nat → Prop} (hx : VR G w x ux) (hy : VR G w y uy)
    (h2 : notInt P t2 = true) (hap : appendAV P σ s g t x y = some (v, σ')) (hg : ∀ s', ¬ G.U s' g) (hV : ∀ g', V g' → V' g') (hVg : V' g) :
    ∃ u w' G', (Builtin.append_ #[t, t2] ty #[ux, uy]).run P w = .ok u w' ∧ VR G' w' v u ∧ Rel X G' V' A0 M w0 n σ' a w' ∧ Ext G w G' w' := by
  unfold appendAV at hap
  split at hap
  · rename_i e ht
    split at hap
    · rename_i hez
      obtain ⟨zr, hzr⟩ := Option.isSome_iff_exists.1 hez
      obtain ⟨hsz, _, zv, inf, hi, hzz, _, hzs, _, hz1⟩ := zeroRow_sound hzr w G
      split at hap
      · cases hap
      · rename_i ys fr' hn
        obtain ⟨⟨hlen, hcells⟩, hyl⟩ := newsOf_sound h.hO hy hn
        split at hap
        · rename_i frx
          have hux : ux = .slice none 0 0 := by cases hx with | d _ _ _ hr => cases hr; rfl
          subst hux
          split at hap
          · rename_i hys
            subst hys
            obtain ⟨rfl, rfl⟩ := Prod.mk.inj (Option.some.inj hap)
            obtain ⟨cells, hc, _, hcs, _⟩ := hcells 0 (Nat.zero_le _)
            exact ⟨_, w, G, run_append_room' (base := none) ht h2 hi (hlen w) (hc w rfl) (Nat.le_refl _) rfl, .d _ _ _ .slNil, h.mono hV, Ext.refl _ _⟩
          · rename_i hys
            split at hap
            · rename_i hb
              obtain ⟨rfl, rfl⟩ := Prod.mk.inj (Option.some.inj hap)
              obtain ⟨cells, hc, hcr, hcs, hc1⟩ := hcells ys.length (Nat.le_refl _)
              rw [List.take_length] at hcr
              have hpos : 0 < ys.length := List.length_pos_iff.2 hys
              obtain ⟨cap, hcap, hrun⟩ := run_append_grow' (P := P) (w := w) (base := none) (sLen := 0) (sCap := 0) (olds := #[]) (cells := cells) (ty := ty) ht h2 hi hzz (hlen w) hc
                (fun w' _ => run_firstCells_none w' _ _ _ _) (by omega) (by omega) (by simpa using hb.2)
              simp only [Nat.zero_add, Array.empty_append] at hrun hcap
              have hrow : RowR G w.drew (szOf P e) fr' 0 ys (cells ++ Builtin.zeroCells zv.cells (cap - ys.length)) := by
                have := RowR.append (rest := Builtin.zeroCells zv.cells (cap - ys.length)) (h1 := (⟨by simp, fun i c hi => by simp at hi⟩ : RowR G w (szOf P e) true 0 [] #[])) hcr (by simp)
                simp only [List.nil_append, Bool.true_and, Array.empty_append] at this
                exact this.ext ⟨fun _ _ h => h, rfl, fun _ _ h => .inl h, fun b hb => ⟨hb, rfl⟩⟩
              obtain ⟨G', hGU, hv', hrel, hext, _⟩ := h.drew.new (V' := V') (newRow_ok (s := s) (g := g) (e := e) (cap := cap) hrow hcap (by simp [hcs, zeroCells_size, hzs, ← Nat.add_mul]; exact Nat.mul_le_mul_right _ (by omega)) (one_app (one_list hc1) (hz1 _))) rfl (hg _) hV hVg
              exact ⟨_, _, G', hrun, hv', hrel, Ext.trans (G1 := G) (w1 := w.drew) ⟨fun _ _ h => h, rfl, fun _ _ h => .inl h, fun b hb => ⟨hb, rfl⟩⟩ hext⟩
            · cases hap
        · rename_i s0 g0 off len
          split at hap
          · rename_i ty0 esz g' app mt fr xs ho
            split at hap
            · rename_i hcond
              obtain ⟨rfl, rfl, rfl, rfl, rfl, rfl, hb1, hb2⟩ := hcond
              obtain ⟨rfl, rfl⟩ := Prod.mk.inj (Option.some.inj hap)
              obtain ⟨L, hL, hok, hLU⟩ := h.own s0 _ ho
              obtain ⟨hgn, ad, cap, rfl, hcap, had, hsize⟩ := hx.rs_live hL hok.gen_eq
              have hok0 := hok
              obtain ⟨h1, h2', h3, h3', arr, h4, h5, h6, h7⟩ := hok
              obtain ⟨hbase, hmt, hone0⟩ := h3' rfl
              subst hmt
              have hBb := h3 rfl
              obtain ⟨cells, hc, hcr, hcs, hc1⟩ := hcells ys.length (Nat.le_refl _)
              rw [List.take_length] at hcr
              have hrow : RowR G w (szOf P ty0) fr 0 xs arr := ⟨by rw [h5]; omega, by simpa [hbase] using h7⟩
              have holds := cells_run (P := P) (ad := ⟨L.blk, 0, none⟩) (e := szOf P ty0) (fr := fr) (ys := xs) (fun i c hi => (h7 i c hi).1) (fun i c hi k d hk => by
                obtain ⟨u, hu, hv⟩ := (hrow.2 i c hi).2 k d hk
                exact ⟨u, by rw [addr_add, cell_of_arr h4]; exact hu, hv⟩) xs.length (Nat.le_refl _)
              obtain ⟨olds, ho1, ho2, ho3, ho4⟩ := holds
              rw [List.take_length] at ho2
              have hadz : 0 < cap → ad = ⟨L.blk, 0, none⟩ := fun hp => by rw [had hp, hbase]; simp
              by_cases hroom : xs.length + ys.length ≤ cap
              · by_cases hcz : cap = 0
                · have hy0 : ys = [] := List.eq_nil_of_length_eq_zero (by omega)
                  have hx0 : xs = [] := List.eq_nil_of_length_eq_zero (by omega)
                  subst hy0; subst hx0; subst hcz
                  have hce : cells = #[] := Array.eq_empty_of_size_eq_zero (by simpa using hcs)
                  subst hce
                  have hrun := run_append_room' (P := P) (ty := ty) (base := some ad) (w' := w) ht h2 hi (hlen w) (hc w rfl) hroom rfl
                  obtain ⟨G', hl', hu', hrel, hext⟩ := h.write (V' := V') (g := g) (ob' := .row ty0 (szOf P ty0) g true false (fr && fr') ([] ++ [])) (arr := arr) ho hL h4 rfl rfl (.inr ⟨hBb, rfl⟩) (fun j _ => .inl hBb) (.inr (hg _)) hV hVg
                    (fun G' hxt hB => ⟨rfl, h2', fun _ => hB ▸ hBb, fun _ => ⟨hbase, rfl, by rw [setRow_self w L.blk arr ty0 (0, 0) h4]; exact hone0⟩, arr, by rw [setRow_self w L.blk arr ty0 (0, 0) h4]; exact h4, h5, by simpa using h6, fun i c hi => by simp at hi⟩)
                  rw [setRow_self w L.blk arr ty0 (0, 0) h4] at hrel hext
                  refine ⟨_, w, G', hrun, .rs _ _ _ _ _ rfl hu' (fun L2 hL2 _ => ?_), hrel, hext⟩
                  rw [hl'] at hL2
                  obtain rfl := Option.some.inj hL2
                  exact ⟨ad, 0, rfl, hroom, fun hp => absurd hp (by omega), by simpa using hsize⟩
                · have hadv := hadz (by omega)
                  subst hadv
                  have hcapsz : cap * szOf P ty0 ≤ arr.size := by rw [h5]; rw [h2'] at hsize; simpa [hbase] using hsize
                  have hfit : xs.length * szOf P ty0 + cells.toList.length ≤ arr.size := by
                    have : (xs.length + ys.length) * szOf P ty0 ≤ cap * szOf P ty0 := Nat.mul_le_mul_right _ hroom
                    rw [Nat.add_mul] at this
                    simp [hcs]
                    omega
                  have hst := run_storeCells_at P L.blk (xs.length * szOf P ty0) ty0 cells.toList 0 arr w h4 (by simpa using hfit) hc1
                  simp only [Nat.add_zero] at hst
                  have hrun := run_append_room' (P := P) (ty := ty) (base := some ⟨L.blk, 0, none⟩) ht h2 hi (hlen w) (hc w rfl) hroom (by
                    show (storeCells ((⟨L.blk, 0, none⟩ : Addr).add (xs.length * szOf P ty0)) cells.toList).run P w = _
                    rw [addr_add, Nat.zero_add]; exact hst)
                  have hrow' := hrow.extend hcr hcs hfit
                  obtain ⟨G', hl', hu', hrel, hext⟩ := h.write (V' := V') (g := g) (ob' := .row ty0 (szOf P ty0) g true false (fr && fr') (xs ++ ys)) ho hL h4 (splice_size arr cells.toList _ hfit) rfl (.inr ⟨hBb, rfl⟩) (fun j _ => .inl hBb) (.inr (hg _)) hV hVg
                    (fun G' hxt hB => ⟨rfl, h2', fun _ => hB ▸ hBb, fun _ => ⟨hbase, rfl, one_splice hone0 h4 hfit hc1⟩, _, setRow_heap w L.blk arr _ ty0 _ h4, by rw [splice_size _ _ _ hfit]; exact h5, by
                      have := hrow'.1
                      rw [splice_size _ _ _ hfit] at this
                      simp only [hbase]
                      rw [← h5]
                      simpa using this, by simpa [hbase] using (hrow'.ext hxt).2⟩)
                  refine ⟨_, _, G', hrun, .rs _ _ _ _ _ rfl hu' (fun L2 hL2 _ => ?_), hrel, hext⟩
                  rw [hl'] at hL2
                  obtain rfl := Option.some.inj hL2
                  exact ⟨_, cap, rfl, hroom, fun _ => by simp [hbase], by simpa using hsize⟩
              · obtain ⟨cap', hcap', hrun⟩ := run_append_grow' (P := P) (w := w) (base := some ad) (sLen := xs.length) (sCap := cap) (olds := olds) (cells := cells) (ty := ty) ht h2 hi hzz (hlen w) hc
                  (fun w' hw' => by
                    simp only [Builtin.firstCells]
                    by_cases hcz : cap = 0
                    · have hx0 : xs.length = 0 := by omega
                      have := ho1 w' hw'
                      rw [hx0] at this ⊢
                      simp [loadCells, loadCellsFrom] at this ⊢
                      exact this
                    · rw [hadz (by omega)]
                      exact ho1 w' hw') (by omega) hb1 hb2
                have hrow' : RowR G w.drew (szOf P ty0) (fr && fr') 0 (xs ++ ys) (olds ++ cells ++ Builtin.zeroCells zv.cells (cap' - (xs.length + ys.length))) :=
                  (RowR.append (rest := Builtin.zeroCells zv.cells (cap' - (xs.length + ys.length))) ho2 hcr (by simpa using ho3)).ext ⟨fun _ _ h => h, rfl, fun _ _ h => .inl h, fun b hb => ⟨hb, rfl⟩⟩
                obtain ⟨G', hGU, hv', hrel, hext, _⟩ := h.drew.new (V' := V') (newRow_ok (s := s0) (g := g) (e := ty0) (cap := cap') hrow' hcap' (by
                  simp only [Array.size_append, ho3, hcs, zeroCells_size, hzs, ← Nat.add_mul]
                  exact Nat.mul_le_mul_right _ (by omega)) (one_app (one_app (one_list ho4) (one_list hc1)) (hz1 _))) rfl (hg _) hV hVg
                exact ⟨_, _, G', hrun, hv', hrel, Ext.trans (G1 := G) (w1 := w.drew) ⟨fun _ _ h => h, rfl, fun _ _ h => .inl h, fun b hb => ⟨hb, rfl⟩⟩ hext⟩
            · cases hap
          · cases hap
        · cases hap
    · cases hap
  · cases hap

theorem run_copy' {t t2 ty e : TypeId} {inf : TypeInfo} {m dLen dCap : Nat} {base : Option Addr} {uy : Value} {cells : Array Value} {w' : World}
    (ht : P.underlying t = some (.slice e)) (hi : P.info? e = some inf) (hl : (Builtin.lenOf uy).run P w = .ok m w)
    (hc : (Builtin.firstCells (szOf P e) (min m dLen) uy).run P w = .ok cells w)
    (hst : (match base with | some ad => storeCells ad cells.toList | none => (pure () : Sem Unit)).run P w = .ok () w') :
    (Builtin.copy_ #[t, t2] ty #[.slice base dLen dCap, uy]).run P w = .ok (goInt (min m dLen : Nat)) w' := by
  have hc' : (Builtin.firstCells (szOf P e) (Nat.min m dLen) uy).run P w = .ok cells w := hc
  simp [Builtin.copy_, run_underlying ht, run_sizeOf' hi, hl, hc']
  cases base with
  | none => simp at hst ⊢; exact hst
  | some ad => simp [hst]

theorem RowR.splice {e base : Nat} {fr fr' : Bool} {xs ys : List (List Data)} {arr cells : Array Value} {off : Nat} (h1 : RowR G w e fr base xs arr) (h2 : RowR G w e fr' 0 ys cells) (hs : cells.size = ys.length * e)
    (hoff : off + ys.length ≤ xs.length) :
    base + off * e + cells.toList.length ≤ arr.size ∧
    RowR G w e (fr && fr') base (xs.take off ++ ys ++ xs.drop (off + ys.length)) (arr.toList.take (base + off * e) ++ cells.toList ++ arr.toList.drop (base + off * e + cells.toList.length)).toArray := by
  have hle : (off + ys.length) * e ≤ xs.length * e := Nat.mul_le_mul_right _ hoff
  rw [Nat.add_mul] at hle
  have hfit : base + off * e + cells.toList.length ≤ arr.size := by
    have := h1.1
    simp [hs]
    omega
  refine ⟨hfit, by
    rw [splice_size _ _ _ hfit]
    have : (xs.take off ++ ys ++ xs.drop (off + ys.length)).length = xs.length := by simp; omega
    rw [this]; exact h1.1, fun i c hi => ?_⟩
  rw [get_splice _ _ _ _ (by omega)] at hi
  split at hi
  · rename_i hin
    obtain ⟨l1, l2⟩ := h2.2 _ c hi
    refine ⟨l1, fun k d hk => ?_⟩
    obtain ⟨u, hu, hv⟩ := l2 k d hk
    have h3 := (Array.getElem?_eq_some_iff.1 hu).1
    have hie : i * e = off * e + (i - off) * e := by rw [← Nat.add_mul]; congr 1; omega
    refine ⟨u, ?_, hv.weaken fun h => by simp at h; exact h.2⟩
    rw [splice_get _ _ _ _ hfit, if_pos (by simp; omega), show base + (i * e + k) - (base + off * e) = 0 + ((i - off) * e + k) from by omega]
    simpa using hu
  · rename_i hin
    obtain ⟨l1, l2⟩ := h1.2 _ c hi
    refine ⟨l1, fun k d hk => ?_⟩
    obtain ⟨u, hu, hv⟩ := l2 k d hk
    have hkl : k < e := by have := (List.getElem?_eq_some_iff.1 hk).1; omega
    refine ⟨u, ?_, hv.weaken fun h => by simp at h; exact h.1⟩
    rw [splice_get _ _ _ _ hfit, if_neg]
    · exact hu
    · simp only [Array.length_toList, hs]
      intro ⟨ha, hb⟩
      rcases Nat.lt_or_ge i off with hlt | hge
      · have := idx_lt hkl hlt; omega
      · have h4 : off + ys.length ≤ i := by omega
        have : (off + ys.length) * e ≤ i * e := Nat.mul_le_mul_right _ h4
        rw [Nat.add_mul] at this
        omega

theorem copyAV_sound (h : Rel X G V A0 M w0 n σ a w) {t t2 ty : TypeId} {x y v : AV} {ux uy : Value} {σ' : St} (hx : VR G w x ux) (hy : VR G w y uy)
    (hap : copyAV P σ t x y = some (v, σ')) :
    ∃ u w' G', (Builtin.copy_ #[t, t2] ty #[ux, uy]).run P w = .ok u w' ∧ VR G' w' v u ∧ Rel X G' V A0 M w0 n σ' a w' ∧ Ext G w G' w' := by
  unfold copyAV at hap
  split at hap
  · rename_i e ht
    split at hap
    · rename_i hsz
      obtain ⟨inf, hi⟩ := info_of_sz hsz
      split at hap
      · cases hap
      · rename_i ys fr' hn
        obtain ⟨⟨hlen, hcells⟩, hyl⟩ := newsOf_sound h.hO hy hn
        split at hap
        · rename_i s0 g0 off len
          split at hap
          · rename_i ty0 esz g' app mt fr xs ho
            split at hap
            · rename_i hcond
              obtain ⟨rfl, rfl, hle⟩ := hcond
              obtain ⟨rfl, rfl⟩ := Prod.mk.inj (Option.some.inj hap)
              obtain ⟨L, hL, hok, hLU⟩ := h.own s0 _ ho
              obtain ⟨hgn, ad, cap, rfl, hcap, had, hsize⟩ := hx.rs_live hL hok.gen_eq
              obtain ⟨h1, h2', h3, h3', arr, h4, h5, h6, h7⟩ := hok
              obtain ⟨cells, hc, hcr, hcs, hc1⟩ := hcells (min ys.length len) (by omega)
              have hrow : RowR G w (szOf P e) fr L.base xs arr := ⟨by rw [h5]; exact h6, h7⟩
              have htl : (ys.take (min ys.length len)).length = min ys.length len := by simp
              obtain ⟨hfit, hrow'⟩ := hrow.splice (off := off) hcr (by rw [htl]; exact hcs) (by rw [htl]; omega)
              rw [htl] at hrow'
              have hcl : cells.toList.length = min ys.length len * szOf P e := by simp [hcs]
              by_cases hcz : cap = 0
              · have hl0 : len = 0 := by omega
                subst hl0
                have hm0 : min ys.length 0 = 0 := by omega
                have hce : cells = #[] := Array.eq_empty_of_size_eq_zero (by rw [hcs, hm0]; simp)
                subst hce
                have hrun := run_copy' (P := P) (w := w) (t2 := t2) (ty := ty) (dLen := 0) (dCap := cap) (base := some ad) (w' := w) ht hi (hlen w) (hc w rfl) rfl
                have hsame : (arr.toList.take (L.base + off * szOf P e) ++ ([] : List Value) ++ arr.toList.drop (L.base + off * szOf P e + ([] : List Value).length)).toArray = arr := by simp
                obtain ⟨G', hl', hu', hrel, hext⟩ := h.write (V' := V) (g := L.gen) (ob' := .row ty0 (szOf P e) g' app mt (fr && fr') (xs.take off ++ ys.take (min ys.length 0) ++ xs.drop (off + min ys.length 0))) (arr := arr) ho hL h4 rfl rfl (.inl (by simp [obLen]))
                  (fun j _ => .inr rfl) (.inl rfl) (fun _ h => h) (h.used _ _ hLU)
                  (fun G' hxt hB => ⟨h1, h2', fun hm => hB ▸ h3 hm, fun ha => ⟨(h3' ha).1, (h3' ha).2.1, by rw [setRow_self w L.blk arr ty0 (0, 0) h4]; exact (h3' ha).2.2⟩, arr, by rw [setRow_self w L.blk arr ty0 (0, 0) h4]; exact h4, h5, by simpa using h6, by
                    have hr := (hrow'.ext hxt).2
                    simp only [hsame] at hr
                    exact hr⟩)
                rw [setRow_self w L.blk arr ty0 (0, 0) h4] at hrel hext
                exact ⟨_, w, G', hrun, VR.mk_val rfl, hrel, hext⟩
              · have hadv := had (by omega)
                subst hadv
                rw [h2'] at hx ⊢
                have hst := run_storeCells_at P L.blk (L.base + off * szOf P e) ty0 cells.toList 0 arr w h4 (by simpa using hfit) hc1
                simp only [Nat.add_zero] at hst
                have hrun := run_copy' (P := P) (w := w) (t2 := t2) (ty := ty) (dLen := len) (dCap := cap) (base := some ⟨L.blk, L.base + off * szOf P e, none⟩) ht hi (hlen w) (hc w rfl) hst
                obtain ⟨G', hl', hu', hrel, hext⟩ := h.write (V' := V) (g := L.gen) (ob' := .row ty0 (szOf P e) g' app mt (fr && fr') (xs.take off ++ ys.take (min ys.length len) ++ xs.drop (off + min ys.length len))) ho hL h4 (splice_size arr cells.toList _ hfit) rfl
                  (.inl (by
                    have : (xs.take off ++ ys.take (min ys.length len) ++ xs.drop (off + min ys.length len)).length = xs.length := by simp; omega
                    simp only [obLen, this]; exact Nat.le_refl _))
                  (fun j hj => .inr (by
                    rw [splice_get _ _ _ _ hfit, if_neg]
                    have : (off + min ys.length len) * szOf P e ≤ xs.length * szOf P e := Nat.mul_le_mul_right _ (by omega)
                    rw [Nat.add_mul] at this
                    simp only [obLen] at hj
                    rw [hcl]
                    omega)) (.inl rfl) (fun _ h => h) (h.used _ _ hLU)
                  (fun G' hxt hB => ⟨h1, h2', fun hm => hB ▸ h3 hm, fun ha => ⟨(h3' ha).1, (h3' ha).2.1, one_splice (h3' ha).2.2 h4 hfit hc1⟩, _, setRow_heap w L.blk arr _ ty0 _ h4, by rw [splice_size _ _ _ hfit]; exact h5, by
                    have := hrow'.1
                    rw [splice_size _ _ _ hfit] at this
                    rw [← h5]
                    exact this, (hrow'.ext hxt).2⟩)
                exact ⟨_, _, G', hrun, VR.mk_val rfl, hrel, hext⟩
            · cases hap
          · cases hap
        · cases hap
    · cases hap
  · cases hap

end
end Go.Dv
