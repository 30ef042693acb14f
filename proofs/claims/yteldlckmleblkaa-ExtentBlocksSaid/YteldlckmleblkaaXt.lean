/-
  DERIVED, MY OWN. A part of the proof of ExtentBlocks: see the last text (Row).
-/
import Derived.Test.YteldlckmleblkaaDvC
set_option linter.all false
/-
  DERIVED, MY OWN. EXTENTS, in plain Lean.
-/

set_option autoImplicit false
namespace Go.Dv
open Go Go.RowKit

/-- An extent. -/
structure Xt where
  at' : Int
  start : Int
  len : Int
  un : Bool
  deriving DecidableEq

def Xt.enc (e : Xt) : List Data := [vi e.at', vi e.start, vi e.len, vb e.un]

def decX : List Data → Option Xt
  | [.val (.int .i64 a), .val (.int .i64 s), .val (.int .i64 l), .val (.bool u)] => some ⟨a, s, l, u⟩
  | _ => none

theorem xt_eta (e : Xt) : (⟨e.at', e.start, e.len, e.un⟩ : Xt) = e := rfl

theorem decX_enc (e : Xt) : decX e.enc = some e := rfl
theorem enc_of_decX {cs : List Data} {e : Xt} (h : decX cs = some e) : cs = e.enc := by
  unfold decX at h
  split at h
  · obtain rfl := Option.some.inj h; rfl
  · cases h

def decL : List (List Data) → Option (List Xt)
  | [] => some []
  | c :: cs => match decX c, decL cs with | some e, some l => some (e :: l) | _, _ => none

theorem decL_enc : ∀ l : List Xt, decL (l.map Xt.enc) = some l
  | [] => rfl
  | e :: l => by simp only [List.map_cons, decL, decX_enc, decL_enc l]

theorem enc_of_decL : ∀ {xs : List (List Data)} {l : List Xt}, decL xs = some l → xs = l.map Xt.enc
  | [], l, h => by simp only [decL, Option.some.injEq] at h; subst h; rfl
  | c :: cs, l, h => by
    simp only [decL] at h
    split at h
    · rename_i e l' h1 h2
      obtain rfl := Option.some.inj h
      rw [enc_of_decX h1, enc_of_decL h2]; rfl
    · cases h

theorem valRow_enc (l : List Xt) : valRow (l.map Xt.enc) = true := by
  unfold valRow
  rw [List.all_eq_true]; intro c hc; obtain ⟨e, _, rfl⟩ := List.mem_map.1 hc; rfl

def endX (e : Xt) : Int := w64 (e.at' + e.len)
def lastX (e : Xt) : Int := w64 (e.start + e.len)
def mayX (e : Xt) : Bool := decide (0 ≤ e.at' ∧ 0 < e.start ∧ 0 < e.len ∧ e.len ≤ 256 ∧ endX e ≤ 256 ∧ e.start < 1024 ∧ lastX e ≤ 1024 ∧ e.at' < 256)
def goesX (a b : Xt) : Bool := decide (endX a = b.at') && (decide (lastX a = b.start) && (a.un == b.un))
def partX (e : Xt) (p q : Int) : Xt := ⟨p, w64 (w64 (e.start + p) - e.at'), w64 (q - p), e.un⟩

def sp23 : FSpec := ⟨[false], fun ins => match ins with | [.ag cs] => (decX cs).map fun e => ⟨[.sc (vi (endX e)) true], none⟩ | _ => none⟩
def sp50 : FSpec := ⟨[false], fun ins => match ins with | [.ag cs] => (decX cs).map fun e => ⟨[.sc (vi (lastX e)) true], none⟩ | _ => none⟩
def sp22 : FSpec := ⟨[false], fun ins => match ins with | [.ag cs] => (decX cs).map fun e => ⟨[.sc (vb (mayX e)) true], none⟩ | _ => none⟩
def sp24 : FSpec := ⟨[false, false], fun ins => match ins with | [.ag cs, .ag ds] => (match decX cs, decX ds with | some a, some b => some ⟨[.sc (vb (goesX a b)) true], none⟩ | _, _ => none) | _ => none⟩
def sp56 : FSpec := ⟨[false, false, false], fun ins => match ins with | [.ag cs, .sc (.val (.int .i64 p)), .sc (.val (.int .i64 q))] => (decX cs).map fun e => ⟨[.ag (partX e p q).enc true], none⟩ | _ => none⟩

theorem sp23_inv {ins : List In} {out : Out} (h : sp23.run ins = some out) : ∃ e, ins = [.ag (Xt.enc e)] ∧ out = ⟨[.sc (vi (endX e)) true], none⟩ := by
  simp only [sp23] at h
  split at h
  · rename_i cs
    cases hd : decX cs with
    | none => simp [hd] at h
    | some e => simp [hd] at h; exact ⟨e, by rw [enc_of_decX hd], h.symm⟩
  · cases h
theorem sp50_inv {ins : List In} {out : Out} (h : sp50.run ins = some out) : ∃ e, ins = [.ag (Xt.enc e)] ∧ out = ⟨[.sc (vi (lastX e)) true], none⟩ := by
  simp only [sp50] at h
  split at h
  · rename_i cs
    cases hd : decX cs with
    | none => simp [hd] at h
    | some e => simp [hd] at h; exact ⟨e, by rw [enc_of_decX hd], h.symm⟩
  · cases h
theorem sp22_inv {ins : List In} {out : Out} (h : sp22.run ins = some out) : ∃ e, ins = [.ag (Xt.enc e)] ∧ out = ⟨[.sc (vb (mayX e)) true], none⟩ := by
  simp only [sp22] at h
  split at h
  · rename_i cs
    cases hd : decX cs with
    | none => simp [hd] at h
    | some e => simp [hd] at h; exact ⟨e, by rw [enc_of_decX hd], h.symm⟩
  · cases h
theorem sp24_inv {ins : List In} {out : Out} (h : sp24.run ins = some out) : ∃ a b, ins = [.ag (Xt.enc a), .ag (Xt.enc b)] ∧ out = ⟨[.sc (vb (goesX a b)) true], none⟩ := by
  simp only [sp24] at h
  split at h
  · rename_i cs ds
    cases hd : decX cs with
    | none => simp [hd] at h
    | some e =>
      cases hd2 : decX ds with
      | none => simp [hd, hd2] at h
      | some e2 => simp [hd, hd2] at h; exact ⟨e, e2, by rw [enc_of_decX hd, enc_of_decX hd2], h.symm⟩
  · cases h
theorem sp56_inv {ins : List In} {out : Out} (h : sp56.run ins = some out) : ∃ e p q, ins = [.ag (Xt.enc e), .sc (vi p), .sc (vi q)] ∧ out = ⟨[.ag (partX e p q).enc true], none⟩ := by
  simp only [sp56] at h
  split at h
  · rename_i cs p q
    cases hd : decX cs with
    | none => simp [hd] at h
    | some e => simp [hd] at h; exact ⟨e, p, q, by rw [enc_of_decX hd], h.symm⟩
  · cases h
end Go.Dv

/-
  DERIVED, MY OWN. LISTS OF EXTENTS THAT ARE RIGHT, in plain Lean.
-/

set_option autoImplicit false
namespace Go.Dv
open Go Go.RowKit

def disjX (a b : Xt) : Bool := decide (a.start + a.len ≤ b.start ∨ b.start + b.len ≤ a.start)
def apartX : List Xt → Bool
  | [] => true
  | e :: l => l.all (disjX e) && apartX l

def stepX (l : List Xt) (i : Nat) : Bool :=
  match l[i]? with
  | none => false
  | some e => mayX e && (match i with
    | 0 => true
    | j + 1 => match l[j]? with | none => false | some p => !decide (e.at' < endX p) && !goesX p e)
def chainX (l : List Xt) : Bool := (List.range l.length).all (stepX l)
def checkX (l : List Xt) : Bool := decide (l.length ≤ 60) && (chainX l && apartX l)

theorem chainX_of {l : List Xt} (h : ∀ i, i < l.length → stepX l i = true) : chainX l = true := by
  simp only [chainX, List.all_eq_true, List.mem_range]; exact h
theorem chainX_not {l : List Xt} {i : Nat} (hi : i < l.length) (h : stepX l i = false) : chainX l = false := by
  cases hc : chainX l with
  | false => rfl
  | true =>
    simp only [chainX, List.all_eq_true, List.mem_range] at hc
    rw [hc i hi] at h; cases h
theorem all_may {l : List Xt} (h : chainX l = true) : l.all mayX = true := by
  rw [List.all_eq_true]
  intro e he
  obtain ⟨i, hi⟩ := List.getElem?_of_mem he
  have hil := (List.getElem?_eq_some_iff.1 hi).1
  simp only [chainX, List.all_eq_true, List.mem_range] at h
  have := h i hil
  unfold stepX at this
  rw [hi] at this
  simp only [Bool.and_eq_true] at this
  exact this.1

def mayL (l : List Xt) : Bool := l.all mayX
def fewL (l : List Xt) : Bool := mayL l && decide (l.length ≤ 1000)

def sp25 : FSpec := ⟨[false], fun ins => match ins with | [.sc (.sl _ xs)] => (match decL xs with | some l => if fewL l then some ⟨[.sc (vb (apartX l)) true], none⟩ else none | none => none) | _ => none⟩
def sp7 : FSpec := ⟨[false], fun ins => match ins with | [.sc (.sl _ xs)] => (decL xs).map fun l => ⟨[.sc (vi (if checkX l then 0 else 1)) true], none⟩ | _ => none⟩
theorem sp7_inv {ins : List In} {out : Out} (h : sp7.run ins = some out) : ∃ n l, ins = [.sc (.sl n (l.map Xt.enc))] ∧ out = ⟨[.sc (vi (if checkX l then 0 else 1)) true], none⟩ := by
  simp only [sp7] at h
  split at h
  · rename_i n xs
    cases hd : decL xs with
    | none => simp [hd] at h
    | some l => simp only [hd, Option.map_some, Option.some.injEq] at h; exact ⟨n, l, by rw [enc_of_decL hd], h.symm⟩
  · cases h
theorem sp25_inv {ins : List In} {out : Out} (h : sp25.run ins = some out) : ∃ n l, ins = [.sc (.sl n (l.map Xt.enc))] ∧ mayL l = true ∧ l.length ≤ 1000 ∧ out = ⟨[.sc (vb (apartX l)) true], none⟩ := by
  simp only [sp25] at h
  split at h
  · rename_i n xs
    cases hd : decL xs with
    | none => simp [hd] at h
    | some l =>
      rw [hd] at h
      simp only at h
      split at h
      · rename_i hm; simp only [Option.some.injEq] at h; simp only [fewL, Bool.and_eq_true, decide_eq_true_eq] at hm; exact ⟨n, l, by rw [enc_of_decL hd], hm.1, hm.2, h.symm⟩
      · cases h
  · cases h
theorem enc_getElem? (l : List Xt) (i : Nat) : (l.map Xt.enc)[i]? = (l[i]?).map Xt.enc := by simp
end Go.Dv

/-
  DERIVED, MY OWN. SHIFTS AND BITS OF NATURAL NUMBERS, as the operations give them.
-/

set_option autoImplicit false
namespace Go.Dv
open Go Go.RowKit

theorem u64_wrap_nat {a : Nat} (h : a < 18446744073709551616) : IntKind.u64.wrap (a : Int) = a := by
  have : IntKind.u64.wrap (a : Int) = (a : Int) % (2 ^ 64 : Int) := rfl
  rw [this]; omega
theorem bv_ofInt_nat (w a : Nat) : BitVec.ofInt w (a : Int) = BitVec.ofNat w a := BitVec.ofInt_natCast w a

theorem shr_nat (k : IntKind) (a s : Nat) (hs : s ≤ k.bits) : binShift .shr k (a : Int) (s : Int) = some (.int k ((a / 2 ^ s : Nat) : Int)) := by
  unfold binShift
  rw [if_neg (by omega)]
  simp only [Int.toNat_natCast, Nat.min_eq_left hs, Option.some.injEq, Value.int.injEq, true_and]
  rw [Int.fdiv_eq_ediv_of_nonneg _ (by exact_mod_cast Nat.zero_le _)]
  norm_cast

theorem shr_i64_6 (a : Nat) : binShift .shr .i64 (a : Int) 6 = some (.int .i64 ((a / 64 : Nat) : Int)) := shr_nat .i64 a 6 (by decide)
theorem shr_u64 (a s : Nat) (hs : s < 64) : binShift .shr .u64 (a : Int) (s : Int) = some (.int .u64 ((a / 2 ^ s : Nat) : Int)) := shr_nat .u64 a s (Nat.le_of_lt hs)

theorem and_nat (a b : Nat) (h : a < 18446744073709551616) (hb : b < 18446744073709551616) : (BitVec.ofInt 64 (a : Int) &&& BitVec.ofInt 64 (b : Int)).toNat = a &&& b := by
  rw [bv_ofInt_nat, bv_ofInt_nat, BitVec.toNat_and, BitVec.toNat_ofNat, BitVec.toNat_ofNat, Nat.mod_eq_of_lt (by omega), Nat.mod_eq_of_lt (by omega)]
theorem or_nat (a b : Nat) (h : a < 18446744073709551616) (hb : b < 18446744073709551616) : (BitVec.ofInt 64 (a : Int) ||| BitVec.ofInt 64 (b : Int)).toNat = a ||| b := by
  rw [bv_ofInt_nat, bv_ofInt_nat, BitVec.toNat_or, BitVec.toNat_ofNat, BitVec.toNat_ofNat, Nat.mod_eq_of_lt (by omega), Nat.mod_eq_of_lt (by omega)]

theorem and63_i64 (a : Nat) (h : a < 9223372036854775808) : binInt .and .i64 (a : Int) 63 = some (.int .i64 ((a % 64 : Nat) : Int)) := by
  have e := and_nat a 63 (by omega) (by omega)
  have e2 : a &&& 63 = a % 64 := Nat.and_two_pow_sub_one_eq_mod a 6
  simp only [binInt]
  have e3 : (BitVec.ofInt IntKind.i64.bits (a : Int) &&& BitVec.ofInt IntKind.i64.bits 63).toNat = a % 64 := by rw [← e2]; exact e
  rw [e3, w64_in (by omega) (by omega)]
theorem and1_u64 (a : Nat) (h : a < 18446744073709551616) : binInt .and .u64 (a : Int) 1 = some (.int .u64 ((a % 2 : Nat) : Int)) := by
  have e := and_nat a 1 (by omega) (by omega)
  have e2 : a &&& 1 = a % 2 := Nat.and_one_is_mod a
  simp only [binInt]
  have e3 : (BitVec.ofInt IntKind.u64.bits (a : Int) &&& BitVec.ofInt IntKind.u64.bits 1).toNat = a % 2 := by rw [← e2]; exact e
  rw [e3, u64_wrap_nat (by omega)]
theorem or_u64 (a b : Nat) (h : a < 18446744073709551616) (hb : b < 18446744073709551616) : binInt .or .u64 (a : Int) (b : Int) = some (.int .u64 ((a ||| b : Nat) : Int)) := by
  simp only [binInt]
  have e3 : (BitVec.ofInt IntKind.u64.bits (a : Int) ||| BitVec.ofInt IntKind.u64.bits (b : Int)).toNat = a ||| b := or_nat a b h hb
  have : a ||| b < 2 ^ 64 := Nat.or_lt_two_pow (by omega) (by omega)
  rw [e3, u64_wrap_nat (by omega)]
theorem shl1_u64 (s : Nat) (hs : s < 64) : binShift .shl .u64 1 (s : Int) = some (.int .u64 ((2 ^ s : Nat) : Int)) := by
  unfold binShift
  rw [if_neg (by omega)]
  have hb : IntKind.u64.bits = 64 := rfl
  have : 2 ^ s < 2 ^ 64 := Nat.pow_lt_pow_right (by omega) hs
  simp only [Int.toNat_natCast, hb, Nat.min_eq_left (Nat.le_of_lt hs), Int.one_mul, Option.some.injEq, Value.int.injEq, true_and]
  have e : ((2 : Int) ^ s) = ((2 ^ s : Nat) : Int) := by norm_cast
  rw [e, u64_wrap_nat (by omega)]
end Go.Dv

/-
  DERIVED, MY OWN. A SET OF NUMBERS UNDER 1024 AS SIXTEEN WORDS; lists of extents that lie apart.
-/

set_option autoImplicit false
namespace Go.Dv
open Go Go.RowKit

def word (W : Nat → Nat) (q : Nat) : AV := .d (.val (.int .u64 ((W q : Nat) : Int))) true
def words (W : Nat → Nat) : List AV := (List.range 16).map (word W)
theorem words_len (W : Nat → Nat) : (words W).length = 16 := by simp [words]
theorem words_get (W : Nat → Nat) {q : Nat} (h : q < 16) : (words W)[q]? = some (word W q) := by simp [words, h]
theorem words_win (W : Nat → Nat) {q : Nat} (h : q < 16) : ((words W).drop q).take 1 = [word W q] := by
  apply List.ext_getElem?
  intro k
  cases k with
  | zero => rw [List.getElem?_take_of_lt (by omega), List.getElem?_drop]; simpa using words_get W h
  | succ k => rw [List.getElem?_take]; simp
def upd (W : Nat → Nat) (b : Nat) : Nat → Nat := fun q => if q = b / 64 then W q ||| 2 ^ (b % 64) else W q
theorem words_upd (W : Nat → Nat) {b : Nat} (h : b / 64 < 16) :
    (words W).take (b / 64) ++ ((.d (.val (.int .u64 ((W (b / 64) ||| 2 ^ (b % 64) : Nat) : Int))) true : AV) :: (words W).drop (b / 64 + 1)) = words (upd W b) := by
  apply List.ext_getElem?
  intro k
  rcases Nat.lt_trichotomy k (b / 64) with hk | hk | hk
  · rw [List.getElem?_append_left (by rw [List.length_take, words_len]; omega), List.getElem?_take_of_lt hk, words_get W (by omega), words_get _ (by omega)]
    have hne : ¬ k = b / 64 := by omega
    simp [word, upd, hne]
  · rw [List.getElem?_append_right (by rw [List.length_take, words_len]; omega), List.length_take, words_len, Nat.min_eq_left (by omega)]
    subst hk
    rw [Nat.sub_self, words_get _ h]
    simp [word, upd]
  · rw [List.getElem?_append_right (by rw [List.length_take, words_len]; omega), List.length_take, words_len, Nat.min_eq_left (by omega)]
    obtain ⟨m, rfl⟩ : ∃ m, k = b / 64 + 1 + m := ⟨k - (b / 64 + 1), by omega⟩
    rw [show b / 64 + 1 + m - b / 64 = m + 1 from by omega, List.getElem?_cons_succ, List.getElem?_drop]
    by_cases h16 : b / 64 + 1 + m < 16
    · rw [words_get W h16, words_get _ h16]
      have hne : ¬ b / 64 + 1 + m = b / 64 := by omega
      simp [word, upd, hne]
    · rw [List.getElem?_eq_none (by rw [words_len]; omega), List.getElem?_eq_none (by rw [words_len]; omega)]

/-- Is a number in the set? -/
def tk (W : Nat → Nat) (b : Nat) : Bool := (W (b / 64)).testBit (b % 64)
theorem tk_eq (W : Nat → Nat) (b : Nat) : tk W b = decide (W (b / 64) / 2 ^ (b % 64) % 2 = 1) := by
  unfold tk; exact Nat.testBit_eq_decide_div_mod_eq
theorem tk_upd (W : Nat → Nat) (b b' : Nat) : tk (upd W b) b' = (tk W b' || decide (b' = b)) := by
  unfold tk upd
  by_cases h : b' / 64 = b / 64
  · rw [if_pos h, Nat.testBit_or, Nat.testBit_two_pow]
    congr 1
    by_cases h2 : b' = b
    · subst h2; simp
    · simp [h2]; omega
  · rw [if_neg h]
    have : b' ≠ b := fun e => h (by rw [e])
    simp [this]
def small (W : Nat → Nat) : Prop := ∀ q, W q < 18446744073709551616
theorem small_upd {W : Nat → Nat} (h : small W) (b : Nat) : small (upd W b) := by
  intro q
  unfold upd
  split
  · have h1 : W q < 2 ^ 64 := h q
    have h2 : 2 ^ (b % 64) < 2 ^ 64 := Nat.pow_lt_pow_right (by omega) (by omega)
    exact Nat.or_lt_two_pow h1 h2
  · exact h q

/-! ### apart -/
/-- Has an extent a block? -/
def hasB (e : Xt) (b : Nat) : Prop := e.start ≤ b ∧ (b : Int) < e.start + e.len
def taken (l : List Xt) (i : Nat) (b : Nat) : Prop := ∃ j e, j < i ∧ l[j]? = some e ∧ hasB e b

theorem apartX_iff (l : List Xt) : apartX l = true ↔ ∀ (j k : Nat) (e f : Xt), j < k → l[j]? = some e → l[k]? = some f → disjX e f = true := by
  induction l with
  | nil => simp [apartX]
  | cons a l ih =>
    simp only [apartX, Bool.and_eq_true, List.all_eq_true, ih]
    constructor
    · rintro ⟨h1, h2⟩ j k e f hjk hj hk
      obtain ⟨k, rfl⟩ : ∃ k', k = k' + 1 := ⟨k - 1, by omega⟩
      rw [List.getElem?_cons_succ] at hk
      cases j with
      | zero => simp at hj; subst hj; exact h1 f (List.mem_of_getElem? hk)
      | succ j => rw [List.getElem?_cons_succ] at hj; exact h2 j k e f (by omega) hj hk
    · intro h
      refine ⟨fun f hf => ?_, fun j k e f hjk hj hk => h (j + 1) (k + 1) e f (by omega) (by simpa using hj) (by simpa using hk)⟩
      obtain ⟨k, hk⟩ := List.getElem?_of_mem hf
      exact h 0 (k + 1) a f (by omega) (by simp) (by simpa using hk)

theorem mayL_get {l : List Xt} (h : mayL l = true) {i : Nat} {e : Xt} (hi : l[i]? = some e) : 0 ≤ e.at' ∧ 0 < e.start ∧ 0 < e.len ∧ e.len ≤ 256 ∧ e.at' + e.len ≤ 256 ∧ e.start < 1024 ∧ e.start + e.len ≤ 1024 ∧ lastX e = e.start + e.len ∧ endX e = e.at' + e.len := by
  have := List.all_eq_true.1 h e (List.mem_of_getElem? hi)
  simp only [mayX, decide_eq_true_eq] at this
  obtain ⟨h1, h2, h3, h4, h5, h6, h7, h8⟩ := this
  have e1 : endX e = e.at' + e.len := w64_in (by omega) (by omega)
  have e2 : lastX e = e.start + e.len := w64_in (by omega) (by omega)
  exact ⟨h1, h2, h3, h4, by omega, h6, by omega, e2, e1⟩

/-- Two that have a block in common lie not apart. -/
theorem apartX_no {l : List Xt} {i : Nat} {e : Xt} {b : Nat} (hi : l[i]? = some e) (hb : hasB e b) (ht : taken l i b) : apartX l = false := by
  cases h : apartX l with
  | false => rfl
  | true =>
    obtain ⟨j, f, hj, hf, hfb⟩ := ht
    have := (apartX_iff l).1 h j i f e hj hf hi
    simp only [disjX, decide_eq_true_eq] at this
    unfold hasB at hb hfb
    omega
/-- All those ahead of i lie apart. -/
def apartN (l : List Xt) (i : Nat) : Prop := ∀ (j k : Nat) (e f : Xt), j < k → k < i → l[j]? = some e → l[k]? = some f → disjX e f = true
theorem apartN_zero (l : List Xt) : apartN l 0 := fun _ _ _ _ _ h => by omega
theorem apartN_all {l : List Xt} (h : apartN l l.length) : apartX l = true :=
  (apartX_iff l).2 fun j k e f hjk hj hk => h j k e f hjk (List.getElem?_eq_some_iff.1 hk).1 hj hk
theorem apartN_succ {l : List Xt} {i : Nat} {e : Xt} (hm : mayL l = true) (hi : l[i]? = some e) (h : apartN l i) (hno : ∀ b, hasB e b → ¬ taken l i b) : apartN l (i + 1) := by
  intro j k a f hjk hki hj hk
  by_cases hki' : k < i
  · exact h j k a f hjk hki' hj hk
  · obtain rfl : k = i := by omega
    rw [hi] at hk
    obtain rfl := Option.some.inj hk
    obtain ⟨p1, p2, p3, _⟩ := mayL_get hm hj
    obtain ⟨q1, q2, q3, _⟩ := mayL_get hm hi
    simp only [disjX, decide_eq_true_eq]
    apply Classical.byContradiction
    intro hc
    have hb : ∃ b : Nat, hasB e b ∧ hasB a b := by
      refine ⟨(max a.start e.start).toNat, ?_, ?_⟩ <;> (unfold hasB; omega)
    obtain ⟨b, hb1, hb2⟩ := hb
    exact hno b hb1 ⟨j, a, hjk, hj, hb2⟩
end Go.Dv

/-
  DERIVED, MY OWN. WHERE A BLOCK LIES, in plain Lean.
-/

set_option autoImplicit false
namespace Go.Dv
open Go Go.RowKit

/-- The place of the first extent that ends behind a block. -/
def behindX (l : List Xt) (at' : Int) : Nat := l.findIdx fun e => decide (at' < endX e)
def okX (l : List Xt) : Bool := chainX l && decide (l.length ≤ 1000)

theorem chainX_get {l : List Xt} (h : chainX l = true) {i : Nat} {e : Xt} (hi : l[i]? = some e) :
    mayX e = true ∧ ∀ p, 0 < i → l[i - 1]? = some p → endX p ≤ e.at' ∧ goesX p e = false := by
  have hil := (List.getElem?_eq_some_iff.1 hi).1
  simp only [chainX, List.all_eq_true, List.mem_range] at h
  have := h i hil
  unfold stepX at this
  rw [hi] at this
  simp only [Bool.and_eq_true] at this
  refine ⟨this.1, fun p h0 hp => ?_⟩
  obtain ⟨j, rfl⟩ : ∃ j, i = j + 1 := ⟨i - 1, by omega⟩
  rw [Nat.add_sub_cancel] at hp
  have h2 := this.2
  simp only [hp, Bool.and_eq_true, Bool.not_eq_true', decide_eq_false_iff_not] at h2
  exact ⟨by omega, h2.2⟩

/-- The ends grow. -/
theorem chain_mono {l : List Xt} (h : chainX l = true) : ∀ (d i : Nat) (e f : Xt), l[i]? = some e → l[i + (d + 1)]? = some f → endX e ≤ f.at' := by
  intro d
  induction d with
  | zero => intro i e f he hf; exact ((chainX_get h hf).2 e (by omega) (by simpa using he)).1
  | succ d ih =>
    intro i e f he hf
    have hil := (List.getElem?_eq_some_iff.1 hf).1
    have hg : l[i + (d + 1)]? = some l[i + (d + 1)] := List.getElem?_eq_getElem (by omega)
    have h1 := ih i e _ he hg
    have h2 := ((chainX_get h hf).2 l[i + (d + 1)] (by omega) (by rw [show i + (d + 1 + 1) - 1 = i + (d + 1) from by omega]; exact hg)).1
    obtain ⟨m1, m2, m3, m4, m5, m6, m7, m8, m9⟩ := mayL_get (all_may h) hg
    omega

theorem behindX_eq {l : List Xt} (at' : Int) {i : Nat} (hi : i ≤ l.length) (h1 : ∀ (k : Nat) e, k < i → l[k]? = some e → endX e ≤ at') (h2 : ∀ e, l[i]? = some e → at' < endX e) : behindX l at' = i := by
  unfold behindX
  by_cases hl : i < l.length
  · have hg : l[i]? = some l[i] := List.getElem?_eq_getElem hl
    rw [List.findIdx_eq hl]
    refine ⟨by simpa using h2 _ hg, fun j hj => ?_⟩
    have := h1 j l[j] hj (List.getElem?_eq_getElem (by omega))
    simp; omega
  · obtain rfl : i = l.length := by omega
    apply List.findIdx_eq_length.2
    intro e he
    obtain ⟨k, hk⟩ := List.getElem?_of_mem he
    have := h1 k e (List.getElem?_eq_some_iff.1 hk).1 hk
    simp; omega

def sp52 : FSpec := ⟨[false, false], fun ins => match ins with | [.ag cs, .sc (.val (.int .i64 p))] => (decX cs).map fun e => ⟨[.sc (vi (if endX e ≤ p then -1 else 1)) true], none⟩ | _ => none⟩
theorem sp52_inv {ins : List In} {out : Out} (h : sp52.run ins = some out) : ∃ e p, ins = [.ag (Xt.enc e), .sc (vi p)] ∧ out = ⟨[.sc (vi (if endX e ≤ p then -1 else 1)) true], none⟩ := by
  simp only [sp52] at h
  split at h
  · rename_i cs p
    cases hd : decX cs with
    | none => simp [hd] at h
    | some e => simp only [hd, Option.map_some, Option.some.injEq] at h; exact ⟨e, p, by rw [enc_of_decX hd], h.symm⟩
  · cases h

def sp51 : FSpec := ⟨[false, false, false], fun ins => match ins with
  | [.sc (.sl _ xs), .sc (.val (.int .i64 p)), .sc (.clo 52 [])] => (match decL xs with | some l => if okX l then some ⟨[.sc (vi (behindX l p)) true, .sc (vb false) true], none⟩ else none | none => none)
  | _ => none⟩
theorem sp51_inv {ins : List In} {out : Out} (h : sp51.run ins = some out) : ∃ n l p, ins = [.sc (.sl n (l.map Xt.enc)), .sc (vi p), .sc (.clo 52 [])] ∧ chainX l = true ∧ l.length ≤ 1000 ∧ out = ⟨[.sc (vi (behindX l p)) true, .sc (vb false) true], none⟩ := by
  simp only [sp51] at h
  split at h
  · rename_i n xs p
    cases hd : decL xs with
    | none => simp [hd] at h
    | some l =>
      rw [hd] at h
      simp only at h
      split at h
      · rename_i hm; simp only [Option.some.injEq] at h; simp only [okX, Bool.and_eq_true, decide_eq_true_eq] at hm; exact ⟨n, l, p, by rw [enc_of_decL hd], hm.1, hm.2, h.symm⟩
      · cases h
  · cases h

def sp26 : FSpec := ⟨[false, false], fun ins => match ins with
  | [.sc (.sl _ xs), .sc (.val (.int .i64 p))] => (match decL xs with | some l => if okX l then some ⟨[.sc (vi (behindX l p)) true], none⟩ else none | none => none)
  | _ => none⟩
theorem sp26_inv {ins : List In} {out : Out} (h : sp26.run ins = some out) : ∃ n l p, ins = [.sc (.sl n (l.map Xt.enc)), .sc (vi p)] ∧ okX l = true ∧ out = ⟨[.sc (vi (behindX l p)) true], none⟩ := by
  simp only [sp26] at h
  split at h
  · rename_i n xs p
    cases hd : decL xs with
    | none => simp [hd] at h
    | some l =>
      rw [hd] at h
      simp only at h
      split at h
      · rename_i hm; simp only [Option.some.injEq] at h; exact ⟨n, l, p, by rw [enc_of_decL hd], hm, h.symm⟩
      · cases h
  · cases h
end Go.Dv

/-
  DERIVED, MY OWN. FIND, NEED, RANGED, in plain Lean.
-/

set_option autoImplicit false
namespace Go.Dv
open Go Go.RowKit

/-- What Find tells: the device block, written, is there one. -/
def findX (l : List Xt) (p : Int) : Int × Bool × Bool :=
  if checkX l = true ∧ 0 ≤ p then
    match l[behindX l p]? with
    | none => (0, false, false)
    | some e => if p < e.at' then (0, false, false) else (w64 (w64 (e.start + p) - e.at'), !e.un, true)
  else (0, false, false)
def needX (l : List Xt) : Int := if checkX l then (if l.length ≤ 4 then 0 else ((l.length + 19) / 20 : Nat)) else -1
def rangedX (l : List Xt) (p q : Int) : Bool := checkX l && (decide (0 ≤ p) && decide (p ≤ q))

theorem check_ok {l : List Xt} (h : checkX l = true) : okX l = true ∧ l.length ≤ 60 ∧ chainX l = true ∧ apartX l = true := by
  simp only [checkX, Bool.and_eq_true, decide_eq_true_eq] at h
  refine ⟨?_, h.1, h.2.1, h.2.2⟩
  simp only [okX, h.2.1, Bool.true_and, decide_eq_true_eq]; omega

theorem behindX_le (l : List Xt) (p : Int) : behindX l p ≤ l.length := List.findIdx_le_length

def sp12 : FSpec := ⟨[false, false], fun ins => match ins with
  | [.sc (.sl _ xs), .sc (.val (.int .i64 p))] => (decL xs).map fun l => ⟨[.sc (vi (findX l p).1) true, .sc (vb (findX l p).2.1) true, .sc (vb (findX l p).2.2) true], none⟩
  | _ => none⟩
theorem sp12_inv {ins : List In} {out : Out} (h : sp12.run ins = some out) : ∃ n l p, ins = [.sc (.sl n (l.map Xt.enc)), .sc (vi p)] ∧ out = ⟨[.sc (vi (findX l p).1) true, .sc (vb (findX l p).2.1) true, .sc (vb (findX l p).2.2) true], none⟩ := by
  simp only [sp12] at h
  split at h
  · rename_i n xs p
    cases hd : decL xs with
    | none => simp [hd] at h
    | some l => simp only [hd, Option.map_some, Option.some.injEq] at h; exact ⟨n, l, p, by rw [enc_of_decL hd], h.symm⟩
  · cases h
def sp8 : FSpec := ⟨[false], fun ins => match ins with | [.sc (.sl _ xs)] => (decL xs).map fun l => ⟨[.sc (vi (needX l)) true], none⟩ | _ => none⟩
theorem sp8_inv {ins : List In} {out : Out} (h : sp8.run ins = some out) : ∃ n l, ins = [.sc (.sl n (l.map Xt.enc))] ∧ out = ⟨[.sc (vi (needX l)) true], none⟩ := by
  simp only [sp8] at h
  split at h
  · rename_i n xs
    cases hd : decL xs with
    | none => simp [hd] at h
    | some l => simp only [hd, Option.map_some, Option.some.injEq] at h; exact ⟨n, l, by rw [enc_of_decL hd], h.symm⟩
  · cases h
def sp30 : FSpec := ⟨[false, false, false], fun ins => match ins with
  | [.sc (.sl _ xs), .sc (.val (.int .i64 p)), .sc (.val (.int .i64 q))] => (decL xs).map fun l => ⟨[.sc (vb (rangedX l p q)) true], none⟩
  | _ => none⟩
theorem sp30_inv {ins : List In} {out : Out} (h : sp30.run ins = some out) : ∃ n l p q, ins = [.sc (.sl n (l.map Xt.enc)), .sc (vi p), .sc (vi q)] ∧ out = ⟨[.sc (vb (rangedX l p q)) true], none⟩ := by
  simp only [sp30] at h
  split at h
  · rename_i n xs p q
    cases hd : decL xs with
    | none => simp [hd] at h
    | some l => simp only [hd, Option.map_some, Option.some.injEq] at h; exact ⟨n, l, p, q, by rw [enc_of_decL hd], h.symm⟩
  · cases h
end Go.Dv

/-
  DERIVED, MY OWN. COPIES, in plain Lean.
-/

set_option autoImplicit false
namespace Go.Dv
open Go Go.RowKit

def out28 (n : Bool) (l : List Xt) : Out := if n then ⟨[.sc (.sl true []) true], none⟩ else ⟨[.own 24 4 true (l.map Xt.enc)], none⟩
def sp28 : FSpec := ⟨[false], fun ins => match ins with
  | [.sc (.sl n xs)] => (match decL xs with
    | some l => if decide (l.length ≤ 1000) && (!n || l.isEmpty) then some (out28 n l) else none
    | none => none)
  | _ => none⟩
theorem sp28_inv {ins : List In} {out : Out} (h : sp28.run ins = some out) : ∃ (n : Bool) (l : List Xt), ins = [.sc (.sl n (l.map Xt.enc))] ∧ l.length ≤ 1000 ∧ (n = true → l = []) ∧ out = out28 n l := by
  simp only [sp28] at h
  split at h
  · rename_i n xs
    cases hd : decL xs with
    | none => simp [hd] at h
    | some l =>
      rw [hd] at h
      simp only at h
      split at h
      · rename_i hl
        simp only [Bool.and_eq_true, decide_eq_true_eq, Bool.or_eq_true, Bool.not_eq_true', List.isEmpty_iff] at hl
        simp only [Option.some.injEq] at h
        exact ⟨n, l, by rw [enc_of_decL hd], hl.1, fun e => hl.2.resolve_left (by simp [e]), h.symm⟩
      · cases h
  · cases h
end Go.Dv

/-
  DERIVED, MY OWN. NEIGHBOURS PUT TOGETHER, in plain Lean.
-/

set_option autoImplicit false
namespace Go.Dv
open Go Go.RowKit

/-- One more. -/
def mergeStep (out : List Xt) (e : Xt) : List Xt :=
  match out.getLast? with
  | some p => if goesX p e then out.dropLast ++ [{ p with len := w64 (p.len + e.len) }] else out ++ [e]
  | none => [e]
def mergeX (l : List Xt) : List Xt := l.foldl mergeStep []

theorem mergeStep_len (out : List Xt) (e : Xt) : (mergeStep out e).length ≤ out.length + 1 := by
  unfold mergeStep
  cases out.getLast? with
  | none => simp
  | some p =>
    simp only
    split
    · simp
    · simp
theorem mergeX_take (l : List Xt) {i : Nat} {e : Xt} (h : l[i]? = some e) : mergeX (l.take (i + 1)) = mergeStep (mergeX (l.take i)) e := by
  unfold mergeX
  rw [List.take_add_one, h]
  simp [List.foldl_append]
theorem mergeX_len (l : List Xt) : (mergeX l).length ≤ l.length := by
  have : ∀ (l : List Xt) (out : List Xt), (l.foldl mergeStep out).length ≤ out.length + l.length := by
    intro l
    induction l with
    | nil => intro out; simp
    | cons e l ih =>
      intro out
      have h1 := ih (mergeStep out e)
      have h2 := mergeStep_len out e
      simp only [List.foldl_cons, List.length_cons]
      omega
  have h := this l []
  simp only [List.length_nil, Nat.zero_add] at h
  exact h

def sp29 : FSpec := ⟨[false], fun ins => match ins with
  | [.sc (.sl _ xs)] => (match decL xs with
    | some l => if l.length ≤ 1000 then
        (if (mergeX l).length > 60 then some ⟨[.sc (.sl true []) true, .sc (vi 9) true], none⟩
         else if l = [] then some ⟨[.sc (.sl true []) true, .sc (vi 0) true], none⟩
         else some ⟨[.own 24 4 true ((mergeX l).map Xt.enc), .sc (vi 0) true], none⟩)
      else none
    | none => none)
  | _ => none⟩
def out29 (l : List Xt) : Out :=
  if (mergeX l).length > 60 then ⟨[.sc (.sl true []) true, .sc (vi 9) true], none⟩
  else if l = [] then ⟨[.sc (.sl true []) true, .sc (vi 0) true], none⟩
  else ⟨[.own 24 4 true ((mergeX l).map Xt.enc), .sc (vi 0) true], none⟩
theorem sp29_inv {ins : List In} {out : Out} (h : sp29.run ins = some out) : ∃ (n : Bool) (l : List Xt), ins = [.sc (.sl n (l.map Xt.enc))] ∧ l.length ≤ 1000 ∧ out = out29 l := by
  simp only [sp29] at h
  split at h
  · rename_i n xs
    cases hd : decL xs with
    | none => simp [hd] at h
    | some l =>
      rw [hd] at h
      simp only at h
      split at h
      · rename_i hl
        refine ⟨n, l, by rw [enc_of_decL hd], hl, ?_⟩
        unfold out29
        split at h
        · rename_i h6; rw [if_pos h6]; exact (Option.some.inj h).symm
        · rename_i h6
          rw [if_neg h6]
          split at h
          · rename_i h7; rw [if_pos h7]; exact (Option.some.inj h).symm
          · rename_i h7; rw [if_neg h7]; exact (Option.some.inj h).symm
      · cases h
  · cases h
theorem getLast_of {out : List Xt} {m : Nat} {p : Xt} (hl : out.length = m + 1) (hp : out[m]? = some p) : out.getLast? = some p := by
  rw [List.getLast?_eq_getElem?, hl, Nat.add_sub_cancel]; exact hp
theorem mergeStep_yes {out : List Xt} {m : Nat} {p e : Xt} (hl : out.length = m + 1) (hp : out[m]? = some p) (hg : goesX p e = true) : mergeStep out e = out.set m { p with len := w64 (p.len + e.len) } := by
  unfold mergeStep
  rw [getLast_of hl hp]
  simp only [hg, if_true]
  apply List.ext_getElem?
  intro k
  rw [List.getElem?_set, List.getElem?_append, List.length_dropLast, hl, Nat.add_sub_cancel]
  by_cases hk : k < m
  · rw [if_pos hk, if_neg (by omega), List.getElem?_dropLast, if_pos (by omega)]
  · rw [if_neg hk]
    by_cases hkm : k = m
    · subst hkm; simp [hl]
    · rw [if_neg (by omega), List.getElem?_eq_none (by simp; omega), List.getElem?_eq_none (by omega)]
theorem mergeStep_no {out : List Xt} {m : Nat} {p e : Xt} (hl : out.length = m + 1) (hp : out[m]? = some p) (hg : goesX p e = false) : mergeStep out e = out ++ [e] := by
  unfold mergeStep
  rw [getLast_of hl hp]
  simp [hg]
theorem mergeX_pos (l : List Xt) {i : Nat} (hi : 0 < i) (hl : i ≤ l.length) : 0 < (mergeX (l.take i)).length := by
  obtain ⟨j, rfl⟩ : ∃ j, i = j + 1 := ⟨i - 1, by omega⟩
  rw [mergeX_take l (List.getElem?_eq_getElem (by omega))]
  unfold mergeStep
  split
  · split
    · simp
    · simp
  · simp
end Go.Dv

/-
  DERIVED, MY OWN. ONE MORE, AT A PLACE, in plain Lean.
-/

set_option autoImplicit false
namespace Go.Dv
open Go Go.RowKit

/-- With one more at a place. -/
def insL {α : Type} (l : List α) (i : Nat) (e : α) : List α := l.take i ++ e :: l.drop i
theorem insL_map {α β : Type} (f : α → β) (l : List α) (i : Nat) (e : α) : (insL l i e).map f = insL (l.map f) i (f e) := by simp [insL]
theorem insL_len {α : Type} (l : List α) (i : Nat) (e : α) (hi : i ≤ l.length) : (insL l i e).length = l.length + 1 := by simp [insL]; omega

/-- In place: behind the last, a place more is there; what lies behind goes up; the new one is laid. -/
theorem ins_inplace {α : Type} {l spare : List α} {i : Nat} {e : α} (hi : i ≤ l.length) (hs : 1 ≤ spare.length) :
    (((l ++ spare).take (i + 1) ++ (l.drop i) ++ (l ++ spare).drop (i + 1 + (l.length - i))).take i ++ [e] ++ ((l ++ spare).take (i + 1) ++ (l.drop i) ++ (l ++ spare).drop (i + 1 + (l.length - i))).drop (i + 1)).take (l.length + 1) = insL l i e := by
  apply List.ext_getElem?
  intro k
  simp only [insL, List.getElem?_take, List.getElem?_append, List.getElem?_drop, List.length_append, List.length_take, List.length_drop, List.length_cons, List.length_nil, List.getElem?_cons]
  repeat' split
  all_goals first | rfl | omega | (congr 1; omega) | (simp; omega) | (exfalso; omega) | skip
theorem moveAV_of {σ : St} {s s0 g0 len ty esz : Nat} {v : AV} {fr : Bool} {xs : List (List Data)} (hd : deRc v = .rs s0 g0 0 len) (ho : σ.own s0 = some (.row ty esz g0 true false fr xs)) (hl : len ≤ xs.length) :
    moveAV s v σ = some (.rs s σ.ctr 0 len, ((σ.setOwn s0 none).setOwn s (some (.row ty esz σ.ctr true false fr (xs.take len)))).setCtr (σ.ctr + 1)) := by
  unfold moveAV
  rw [hd]
  simp only [ho]
  rw [if_pos ⟨trivial, hl⟩]
/-- At the end, in place. -/
theorem ins_end {α : Type} {l spare : List α} {e : α} (hs : 1 ≤ spare.length) : ((l ++ spare).take (0 + l.length) ++ [e] ++ (l ++ spare).drop (0 + l.length + 1)).take (l.length + 1) = insL l l.length e := by
  simp [insL, List.take_append]
  exact List.take_of_length_le (by omega)
theorem insL_a {α : Type} {m sp : List α} {n i : Nat} (hn : m.length = n) (hi : i < n) (R : List α) : List.take i (List.take (i + 1) (m ++ sp) ++ R) = m.take i := by
  rw [List.take_append_of_le_length (by simp; omega), List.take_take, Nat.min_eq_left (by omega), List.take_append_of_le_length (by omega)]
theorem insL_b {α : Type} {m sp : List α} {n i : Nat} (hn : m.length = n) (hi : i < n) : List.take (n - i) (List.take (n + 1 - i) (List.drop i (m ++ sp))) = m.drop i := by
  rw [List.take_take, Nat.min_eq_left (by omega), List.drop_append_of_le_length (by omega), List.take_append_of_le_length (by simp; omega), List.take_of_length_le (by simp; omega)]
theorem insL_c {α : Type} {m R : List α} {n i : Nat} {e : α} (hn : m.length = n) (hi : i < n) : List.take (n + 1) (m.take i ++ e :: (m.drop i ++ R)) = insL m i e := by
  have h : m.take i ++ e :: (m.drop i ++ R) = (m.take i ++ e :: m.drop i) ++ R := by simp
  rw [h, List.take_append_of_le_length (by simp; omega), List.take_of_length_le (by simp; omega)]
  rfl
theorem insL_1 {α : Type} {m R : List α} {n : Nat} {e : α} (hn : m.length = n) : List.take (n + 1) (m ++ e :: R) = insL m n e := by
  have h : m ++ e :: R = (m ++ [e]) ++ R := by simp
  rw [h, List.take_append_of_le_length (by simp; omega), List.take_of_length_le (by simp; omega)]
  subst hn
  simp [insL]
theorem insL_2 {α : Type} {m : List α} {n : Nat} {e : α} (hn : m.length = n) : List.take (n + 1) (m ++ [e]) = insL m n e := insL_1 hn
theorem insL_3 {α : Type} {m sp R : List α} {n i : Nat} {e : α} (hn : m.length = n) (hi : i < n) :
    List.take (n + 1) (List.take i (List.take (i + 1) (m ++ sp) ++ (List.take (n - i) (List.take (n + 1 - i) (List.drop i (m ++ sp))) ++ R)) ++ e :: (List.take (n - i) (List.take (n + 1 - i) (List.drop i (m ++ sp))) ++ R)) = insL m i e := by
  rw [insL_a hn hi, insL_b hn hi, insL_c hn hi]
theorem insL_4 {α : Type} {m Q R : List α} {n i : Nat} {e : α} (hn : m.length = n) (hi : i < n) :
    List.take (n + 1) (List.take (i + 1) (m.take i ++ e :: Q) ++ (List.take (n - i) (List.take (n - i) (m.drop i)) ++ R)) = insL m i e := by
  have h : List.take (i + 1) (m.take i ++ e :: Q) = m.take i ++ [e] := by
    rw [List.take_append, List.length_take, List.take_of_length_le (by simp; omega), Nat.min_eq_left (by omega), show i + 1 - i = 1 by omega]
    rfl
  have h2 : List.take (n - i) (List.take (n - i) (m.drop i)) = m.drop i := by
    rw [List.take_take, Nat.min_self, List.take_of_length_le (by simp; omega)]
  rw [h, h2, List.append_assoc]
  exact insL_c hn hi
end Go.Dv

/-
  DERIVED, MY OWN. ONE EXTENT PUT INTO A LIST, in plain Lean.
-/

set_option autoImplicit false
namespace Go.Dv
open Go Go.RowKit

def clashX (l : List Xt) (i : Nat) (e : Xt) : Bool := match l[i]? with | some f => decide (f.at' < endX e) | none => false
def outErr (c : Int) : Out := ⟨[.sc (.sl true []) true, .sc (vi c) true], none⟩
def out9 (l : List Xt) (e : Xt) : Out :=
  if checkX l && mayX e then
    (if clashX l (behindX l e.at') e || !apartX (insL l (behindX l e.at') e) then outErr 4 else out29 (insL l (behindX l e.at') e))
  else outErr 1
def sp9 : FSpec := ⟨[false, false], fun ins => match ins with
  | [.sc (.sl n xs), .ag cs] => (match decL xs, decX cs with
    | some l, some e => if !n || l.isEmpty then some (out9 l e) else none
    | _, _ => none)
  | _ => none⟩
theorem sp9_inv {ins : List In} {out : Out} (h : sp9.run ins = some out) : ∃ (n : Bool) (l : List Xt) (e : Xt), ins = [.sc (.sl n (l.map Xt.enc)), .ag e.enc] ∧ (n = true → l = []) ∧ out = out9 l e := by
  simp only [sp9] at h
  split at h
  · rename_i n xs cs
    cases hd : decL xs with
    | none => simp [hd] at h
    | some l =>
      cases he : decX cs with
      | none => simp [hd, he] at h
      | some e =>
        rw [hd, he] at h
        simp only at h
        split at h
        · rename_i hl
          simp only [Bool.or_eq_true, Bool.not_eq_true', List.isEmpty_iff] at hl
          simp only [Option.some.injEq] at h
          exact ⟨n, l, e, by rw [enc_of_decL hd, enc_of_decX he], fun e => hl.resolve_left (by simp [e]), h.symm⟩
        · cases h
  · cases h
theorem insL_may {l : List Xt} {e : Xt} (i : Nat) (h : l.all mayX = true) (he : mayX e = true) : (insL l i e).all mayX = true := by
  rw [List.all_eq_true] at *
  intro x hx
  simp only [insL, List.mem_append, List.mem_cons] at hx
  rcases hx with hx | rfl | hx
  · exact h x (List.mem_of_mem_take hx)
  · exact he
  · exact h x (List.mem_of_mem_drop hx)
theorem check_chain {l : List Xt} (h : checkX l = true) : chainX l = true := by simp [checkX] at h; exact h.2.1
theorem check_len {l : List Xt} (h : checkX l = true) : l.length ≤ 60 := by simp [checkX] at h; exact h.1
end Go.Dv

/-
  DERIVED, MY OWN. EXTENTS CUT IN PIECES, in plain Lean.
-/

set_option autoImplicit false
namespace Go.Dv
open Go Go.RowKit

def loX (e : Xt) (p : Int) : Int := min (max e.at' p) (endX e)
def piecesE (p q : Int) (e : Xt) : List (Xt × Bool) :=
  (if e.at' < loX e p then [(partX e e.at' (loX e p), false)] else []) ++
  ((if loX e p < loX e q then [(partX e (loX e p) (loX e q), true)] else []) ++
   (if max (loX e p) (loX e q) < endX e then [(partX e (max (loX e p) (loX e q)) (endX e), false)] else []))
def piecesX (p q : Int) (l : List Xt) : List (Xt × Bool) := l.flatMap (piecesE p q)

theorem piecesE_len (p q : Int) (e : Xt) : (piecesE p q e).length ≤ 3 := by
  unfold piecesE
  repeat' split
  all_goals simp
theorem piecesX_len (p q : Int) : ∀ l : List Xt, (piecesX p q l).length ≤ 3 * l.length
  | [] => by simp [piecesX]
  | e :: l => by
    have h1 := piecesE_len p q e
    have h2 := piecesX_len p q l
    simp only [piecesX, List.flatMap_cons, List.length_append, List.length_cons] at *
    omega
theorem piecesX_take (p q : Int) {l : List Xt} {i : Nat} {e : Xt} (h : l[i]? = some e) : piecesX p q (l.take (i + 1)) = piecesX p q (l.take i) ++ piecesE p q e := by
  unfold piecesX
  rw [List.take_add_one, h]
  simp
theorem piecesX_split (p q : Int) {l : List Xt} {i : Nat} {e : Xt} (h : l[i]? = some e) : piecesX p q l = piecesX p q (l.take i) ++ (piecesE p q e ++ piecesX p q (l.drop (i + 1))) := by
  obtain ⟨hi, he⟩ := List.getElem?_eq_some_iff.1 h
  have h2 : l = l.take i ++ (e :: l.drop (i + 1)) := by
    rw [← he, ← List.drop_eq_getElem_cons hi, List.take_append_drop]
  conv => lhs; rw [h2]
  unfold piecesX
  simp
end Go.Dv

/-
  DERIVED, MY OWN. WHAT IS LEFT AND WHAT IS CUT, in plain Lean.
-/

set_option autoImplicit false
namespace Go.Dv
open Go Go.RowKit

def leftX (d : List (Xt × Bool)) : List Xt := (d.filter fun x => !x.2).map (·.1)
def spanX (d : List (Xt × Bool)) : List (List Data) := (d.filter fun x => x.2).map fun x => [vi x.1.start, vi x.1.len]
theorem leftX_no (d : List (Xt × Bool)) (x : Xt) : leftX (d ++ [(x, false)]) = leftX d ++ [x] := by simp [leftX]
theorem leftX_yes (d : List (Xt × Bool)) (x : Xt) : leftX (d ++ [(x, true)]) = leftX d := by simp [leftX]
theorem spanX_no (d : List (Xt × Bool)) (x : Xt) : spanX (d ++ [(x, false)]) = spanX d := by simp [spanX]
theorem spanX_yes (d : List (Xt × Bool)) (x : Xt) : spanX (d ++ [(x, true)]) = spanX d ++ [[vi x.start, vi x.len]] := by simp [spanX]
theorem leftX_len (d : List (Xt × Bool)) : (leftX d).length ≤ d.length := by simp only [leftX, List.length_map]; exact List.length_filter_le _ _
theorem spanX_len (d : List (Xt × Bool)) : (spanX d).length ≤ d.length := by simp only [spanX, List.length_map]; exact List.length_filter_le _ _

def outSl (xs : List (List Data)) : Res := .sc (.sl xs.isEmpty xs) true
/-- Cut. -/
def out10 (l : List Xt) (p q : Int) : Out :=
  if rangedX l p q then
    (if (mergeX (leftX (piecesX p q l))).length > 60 then ⟨[.sc (.sl true []) true, .sc (.sl true []) true, .sc (vi 9) true], none⟩
     else ⟨[outSl ((mergeX (leftX (piecesX p q l))).map Xt.enc), outSl (spanX (piecesX p q l)), .sc (vi 0) true], none⟩)
  else ⟨[.sc (.sl true []) true, .sc (.sl true []) true, .sc (vi 1) true], none⟩
def sp10 : FSpec := ⟨[false, false, false], fun ins => match ins with
  | [.sc (.sl _ xs), .sc (.val (.int .i64 p)), .sc (.val (.int .i64 q))] => (decL xs).map fun l => out10 l p q
  | _ => none⟩
theorem sp10_inv {ins : List In} {out : Out} (h : sp10.run ins = some out) : ∃ n l p q, ins = [.sc (.sl n (l.map Xt.enc)), .sc (vi p), .sc (vi q)] ∧ out = out10 l p q := by
  simp only [sp10] at h
  split at h
  · rename_i n xs p q
    cases hd : decL xs with
    | none => simp [hd] at h
    | some l => simp only [hd, Option.map_some, Option.some.injEq] at h; exact ⟨n, l, p, q, by rw [enc_of_decL hd], h.symm⟩
  · cases h

/-- Mark. -/
def markX (d : List (Xt × Bool)) : List Xt := d.map fun x => { x.1 with un := x.1.un && !x.2 }
theorem markX_snoc (d : List (Xt × Bool)) (x : Xt) (b : Bool) : markX (d ++ [(x, b)]) = markX d ++ [{ x with un := x.un && !b }] := by simp [markX]
theorem markX_len (d : List (Xt × Bool)) : (markX d).length = d.length := by simp [markX]
def out11 (l : List Xt) (p q : Int) : Out :=
  if rangedX l p q then
    (if (mergeX (markX (piecesX p q l))).length > 60 then ⟨[.sc (.sl true []) true, .sc (vi 9) true], none⟩
     else ⟨[outSl ((mergeX (markX (piecesX p q l))).map Xt.enc), .sc (vi 0) true], none⟩)
  else ⟨[.sc (.sl true []) true, .sc (vi 1) true], none⟩
def sp11 : FSpec := ⟨[false, false, false], fun ins => match ins with
  | [.sc (.sl _ xs), .sc (.val (.int .i64 p)), .sc (.val (.int .i64 q))] => (decL xs).map fun l => out11 l p q
  | _ => none⟩
theorem sp11_inv {ins : List In} {out : Out} (h : sp11.run ins = some out) : ∃ n l p q, ins = [.sc (.sl n (l.map Xt.enc)), .sc (vi p), .sc (vi q)] ∧ out = out11 l p q := by
  simp only [sp11] at h
  split at h
  · rename_i n xs p q
    cases hd : decL xs with
    | none => simp [hd] at h
    | some l => simp only [hd, Option.map_some, Option.some.injEq] at h; exact ⟨n, l, p, q, by rw [enc_of_decL hd], h.symm⟩
  · cases h
theorem mergeX_nil : mergeX [] = [] := rfl
theorem mergeX_ne {l : List Xt} (h : l ≠ []) : mergeX l ≠ [] := by
  intro e
  have h1 : 0 < l.length := List.length_pos_iff.2 h
  have := mergeX_pos l h1 (Nat.le_refl _)
  rw [List.take_length, e] at this
  simp at this
end Go.Dv

/-
  DERIVED, MY OWN. WHAT A LIST TELLS OF A BLOCK, in plain Lean.
-/

set_option autoImplicit false
namespace Go.Dv
open Go Go.RowKit

structure MX (e : Xt) : Prop where
  a : 0 ≤ e.at'
  s : 0 < e.start
  n : 0 < e.len
  d : e.at' + e.len ≤ 256
  z : e.start + e.len ≤ 1024

theorem MX.endX {e : Xt} (h : MX e) : endX e = e.at' + e.len := by
  obtain ⟨h1, h2, h3, h4, h5⟩ := h
  exact w64_in (by omega) (by omega)
theorem MX.lastX {e : Xt} (h : MX e) : lastX e = e.start + e.len := by
  obtain ⟨h1, h2, h3, h4, h5⟩ := h
  exact w64_in (by omega) (by omega)
theorem mayX_iff (e : Xt) : mayX e = true ↔ MX e := by
  constructor
  · intro h
    simp only [mayX, decide_eq_true_eq] at h
    obtain ⟨h1, h2, h3, h4, h5, h6, h7, h8⟩ := h
    have e1 : endX e = e.at' + e.len := w64_in (by omega) (by omega)
    have e2 : lastX e = e.start + e.len := w64_in (by omega) (by omega)
    rw [e1] at h5
    rw [e2] at h7
    exact ⟨h1, h2, h3, h5, h7⟩
  · intro h
    have e1 := h.endX
    have e2 := h.lastX
    obtain ⟨h1, h2, h3, h4, h5⟩ := h
    simp only [mayX, decide_eq_true_eq, e1, e2]
    omega

/-- The one before the other, and apart. -/
def RX (a b : Xt) : Prop := a.at' + a.len ≤ b.at' ∧ (a.start + a.len ≤ b.start ∨ b.start + b.len ≤ a.start)
structure WX (l : List Xt) : Prop where
  m : ∀ e ∈ l, MX e
  r : l.Pairwise RX

/-- What is told of a block. -/
def look1 (e : Xt) (k : Int) : Option (Int × Bool) := if e.at' ≤ k ∧ k < e.at' + e.len then some (e.start + k - e.at', e.un) else none
def lookO (l : List Xt) (k : Int) : Option (Int × Bool) := l.findSome? (look1 · k)
def told : Option (Int × Bool) → Int × Bool × Bool
  | none => (0, false, false)
  | some (b, u) => (b, !u, true)
theorem lookO_nil (k : Int) : lookO [] k = none := rfl
theorem lookO_append (l1 l2 : List Xt) (k : Int) : lookO (l1 ++ l2) k = (lookO l1 k).or (lookO l2 k) := by
  simp only [lookO, List.findSome?_append]
theorem lookO_cons (e : Xt) (l : List Xt) (k : Int) : lookO (e :: l) k = (look1 e k).or (lookO l k) := by
  simp only [lookO, List.findSome?_cons]
  cases look1 e k <;> rfl
theorem lookO_none {l : List Xt} {k : Int} (h : ∀ e ∈ l, look1 e k = none) : lookO l k = none := by
  simp only [lookO, List.findSome?_eq_none_iff]; exact h

/-- No two that lie side by side go together. -/
def NG (l : List Xt) : Prop := ∀ (i : Nat) a b, l[i]? = some a → l[i + 1]? = some b → goesX a b = false

theorem NG.snoc {o : List Xt} {e : Xt} (h : NG o) (hl : ∀ p, o.getLast? = some p → goesX p e = false) : NG (o ++ [e]) := by
  intro i a b ha hb
  by_cases h1 : i + 1 < o.length
  · rw [List.getElem?_append_left (by omega)] at ha
    rw [List.getElem?_append_left h1] at hb
    exact h i a b ha hb
  · have h2 : i + 1 < (o ++ [e]).length := (List.getElem?_eq_some_iff.1 hb).1
    simp only [List.length_append, List.length_cons, List.length_nil] at h2
    have h3 : i + 1 = o.length := by omega
    rw [List.getElem?_append_right (by omega)] at hb
    rw [List.getElem?_append_left (by omega)] at ha
    rw [h3, Nat.sub_self] at hb
    simp only [List.getElem?_cons_zero, Option.some.injEq] at hb
    subst hb
    refine hl a ?_
    rw [List.getLast?_eq_getElem?, ← ha]
    congr 1
    omega

theorem goes_iff {a b : Xt} (ha : MX a) : goesX a b = true ↔ a.at' + a.len = b.at' ∧ a.start + a.len = b.start ∧ a.un = b.un := by
  simp only [goesX, ha.endX, ha.lastX, Bool.and_eq_true, decide_eq_true_eq, beq_iff_eq]

/-- One step of putting neighbours together. -/
theorem merge_step {out rest : List Xt} {e : Xt} (hw : WX (out ++ e :: rest)) (hn : NG out) :
    WX (mergeStep out e ++ rest) ∧ NG (mergeStep out e) ∧ ∀ k, lookO (mergeStep out e ++ rest) k = lookO (out ++ e :: rest) k := by
  unfold mergeStep
  cases hl : out.getLast? with
  | none =>
    have : out = [] := List.getLast?_eq_none_iff.1 hl
    subst this
    refine ⟨hw, ?_, fun k => rfl⟩
    intro i a b ha hb
    simp at hb
  | some p =>
    simp only
    obtain ⟨o, rfl⟩ : ∃ o, out = o ++ [p] := by
      obtain ⟨o, ho⟩ := List.getLast?_eq_some_iff.1 hl
      exact ⟨o, ho⟩
    have hmp : MX p := hw.m p (by simp)
    have hme : MX e := hw.m e (by simp)
    cases hg : goesX p e
    · simp only [Bool.false_eq_true, if_false]
      refine ⟨by simpa using hw, hn.snoc fun q hq => ?_, fun k => by simp⟩
      simp at hq
      subst hq
      exact hg
    · simp only [if_true, List.dropLast_concat]
      obtain ⟨g1, g2, g3⟩ := (goes_iff hmp).1 hg
      obtain ⟨p1, p2, p3, p4, p5⟩ := hmp
      obtain ⟨q1, q2, q3, q4, q5⟩ := hme
      have hlen : w64 (p.len + e.len) = p.len + e.len := w64_in (by omega) (by omega)
      rw [hlen]
      refine ⟨⟨?_, ?_⟩, ?_, ?_⟩
      · intro x hx
        simp only [List.append_assoc, List.mem_append, List.cons_append, List.nil_append, List.mem_cons] at hx
        rcases hx with hx | rfl | hx
        · exact hw.m x (by simp [hx])
        · exact ⟨p1, p2, by simp only; omega, by simp only; omega, by simp only; omega⟩
        · exact hw.m x (by simp [hx])
      · have hr := hw.r
        have hm := hw.m
        simp only [List.append_assoc, List.cons_append, List.nil_append, List.pairwise_append, List.pairwise_cons, List.mem_cons] at hr ⊢
        obtain ⟨r1, ⟨r2, r3, r4⟩, r5⟩ := hr
        refine ⟨r1, ⟨?_, r4⟩, ?_⟩
        · intro b hb
          have h1 := r2 b (.inr hb)
          have h2 := r3 b hb
          have h3 := hm b (by simp [hb])
          obtain ⟨b1, b2, b3, b4, b5⟩ := h3
          unfold RX at *
          simp only
          omega
        · intro a ha b hb
          rcases hb with rfl | hb
          · have h1 := r5 a ha p (.inl rfl)
            have h2 := r5 a ha e (.inr (.inl rfl))
            have h3 := hm a (by simp [ha])
            obtain ⟨b1, b2, b3, b4, b5⟩ := h3
            unfold RX at *
            simp only
            omega
          · exact r5 a ha b (.inr (.inr hb))
      · have hno : NG o := by
          intro i a b ha hb
          refine hn i a b ?_ ?_
          · rw [List.getElem?_append_left (List.getElem?_eq_some_iff.1 ha).1]; exact ha
          · rw [List.getElem?_append_left (List.getElem?_eq_some_iff.1 hb).1]; exact hb
        refine hno.snoc fun q hq => ?_
        have h0 : 0 < o.length := by
          rcases o with _ | ⟨x, o⟩
          · simp at hq
          · simp
        have hq' : (o ++ [p])[o.length - 1]? = some q := by
          rw [List.getElem?_append_left (by omega), ← List.getLast?_eq_getElem?]; exact hq
        have hp' : (o ++ [p])[o.length - 1 + 1]? = some p := by
          rw [show o.length - 1 + 1 = o.length by omega]; simp
        have := hn _ _ _ hq' hp'
        simp only [goesX] at this ⊢
        exact this
      · intro k
        have h1 : look1 { p with len := p.len + e.len } k = (look1 p k).or (look1 e k) := by
          unfold look1
          simp only
          by_cases c1 : p.at' ≤ k ∧ k < p.at' + p.len
          · rw [if_pos c1, if_pos (by omega)]; rfl
          · rw [if_neg c1]
            by_cases c2 : e.at' ≤ k ∧ k < e.at' + e.len
            · rw [if_pos c2, if_pos (by omega), g3]
              have : p.start + k - p.at' = e.start + k - e.at' := by omega
              rw [this]; rfl
            · rw [if_neg c2, if_neg (by omega)]; rfl
        simp only [List.append_assoc, lookO_append, lookO_cons, List.cons_append, List.nil_append, h1]
        cases look1 p k <;> cases lookO o k <;> rfl

/-- Put together, a list is right, and tells the same. -/
theorem merge_all : ∀ (rest out : List Xt), WX (out ++ rest) → NG out →
    WX (rest.foldl mergeStep out) ∧ NG (rest.foldl mergeStep out) ∧ ∀ k, lookO (rest.foldl mergeStep out) k = lookO (out ++ rest) k
  | [], out, hw, hn => by
    rw [List.append_nil] at hw
    exact ⟨hw, hn, fun k => by simp⟩
  | e :: rest, out, hw, hn => by
    obtain ⟨h1, h2, h3⟩ := merge_step hw hn
    obtain ⟨h4, h5, h6⟩ := merge_all rest (mergeStep out e) h1 h2
    exact ⟨h4, h5, fun k => (h6 k).trans (h3 k)⟩
theorem mergeX_all {m : List Xt} (hw : WX m) : WX (mergeX m) ∧ NG (mergeX m) ∧ ∀ k, lookO (mergeX m) k = lookO m k :=
  merge_all m [] hw (fun i a b ha => by simp at ha)
end Go.Dv

/-
  DERIVED, MY OWN. RIGHT LISTS, AND WHAT FIND TELLS, in plain Lean.
-/

set_option autoImplicit false
namespace Go.Dv
open Go Go.RowKit

def DJ (a b : Xt) : Prop := a.start + a.len ≤ b.start ∨ b.start + b.len ≤ a.start
theorem apart_pw : ∀ l : List Xt, apartX l = true ↔ l.Pairwise DJ
  | [] => by simp [apartX]
  | e :: l => by
    simp only [apartX, Bool.and_eq_true, List.all_eq_true, List.pairwise_cons, apart_pw l, disjX, decide_eq_true_eq, DJ]

theorem wx_of_check {l : List Xt} (h : checkX l = true) : WX l := by
  have hc := check_chain h
  have ha : apartX l = true := by simp [checkX] at h; exact h.2.2
  have hm : ∀ e ∈ l, MX e := fun e he => (mayX_iff e).1 (List.all_eq_true.1 (all_may hc) e he)
  refine ⟨hm, ?_⟩
  have hd := (apart_pw l).1 ha
  rw [List.pairwise_iff_getElem] at hd ⊢
  intro i j hi hj hij
  refine ⟨?_, hd i j hi hj hij⟩
  obtain ⟨d, rfl⟩ : ∃ d, j = i + (d + 1) := ⟨j - i - 1, by omega⟩
  have := chain_mono hc d i l[i] l[i + (d + 1)] (List.getElem?_eq_getElem hi) (List.getElem?_eq_getElem hj)
  rw [(hm l[i] (List.getElem_mem hi)).endX] at this
  exact this

theorem check_of {l : List Xt} (hw : WX l) (hn : NG l) (hl : l.length ≤ 60) : checkX l = true := by
  simp only [checkX, Bool.and_eq_true, decide_eq_true_eq]
  refine ⟨hl, chainX_of fun i hi => ?_, (apart_pw l).2 (hw.r.imp fun h => h.2)⟩
  have he : l[i]? = some l[i] := List.getElem?_eq_getElem hi
  have hm := (mayX_iff _).2 (hw.m l[i] (List.getElem_mem hi))
  unfold stepX
  rw [he]
  simp only [hm, Bool.true_and]
  cases i with
  | zero => rfl
  | succ j =>
    have hp : l[j]? = some l[j] := List.getElem?_eq_getElem (by omega)
    simp only [hp]
    have h1 := hn j l[j] l[j + 1] hp he
    have h2 := (List.pairwise_iff_getElem.1 hw.r j (j + 1) (by omega) hi (by omega)).1
    have h3 := (hw.m l[j] (List.getElem_mem (by omega))).endX
    rw [h1, h3]
    simp
    omega

theorem look_far {l : List Xt} {k : Int} (h : ∀ e ∈ l, k < e.at') : lookO l k = none :=
  lookO_none fun e he => if_neg (by have := h e he; omega)

theorem look_behind : ∀ {l : List Xt} (k : Int), WX l → lookO l k = match l[behindX l k]? with
    | none => none
    | some e => if k < e.at' then none else some (e.start + k - e.at', e.un)
  | [], k, _ => rfl
  | e :: l, k, hw => by
    have hme := hw.m e (by simp)
    have hend := hme.endX
    have hwl : WX l := ⟨fun x hx => hw.m x (by simp [hx]), (List.pairwise_cons.1 hw.r).2⟩
    have ih := look_behind k hwl
    rw [lookO_cons]
    by_cases hk : k < endX e
    · have hb : behindX (e :: l) k = 0 := by simp [behindX, List.findIdx_cons, hk]
      rw [hb]
      simp only [List.getElem?_cons_zero]
      by_cases h1 : k < e.at'
      · rw [if_pos h1]
        have h2 : look1 e k = none := if_neg (by omega)
        rw [h2, look_far fun b hb => by
          have := (List.pairwise_cons.1 hw.r).1 b hb
          have h3 := this.1
          have h4 := hme.n
          omega]
        rfl
      · rw [if_neg h1]
        have h2 : look1 e k = some (e.start + k - e.at', e.un) := if_pos (by rw [hend] at hk; omega)
        rw [h2]; rfl
    · have hb : behindX (e :: l) k = behindX l k + 1 := by simp [behindX, List.findIdx_cons, hk]
      have h2 : look1 e k = none := if_neg (by rw [hend] at hk; omega)
      rw [hb, h2, ih]
      rfl

theorem find_told {l : List Xt} (h : checkX l = true) (k : Int) (hk : k ≤ 1000) : findX l k = told (lookO l k) := by
  have hw := wx_of_check h
  unfold findX
  by_cases h0 : 0 ≤ k
  · rw [if_pos ⟨h, h0⟩, look_behind k hw]
    cases hg : l[behindX l k]? with
    | none => rfl
    | some e =>
      simp only
      obtain ⟨m1, m2, m3, m4, m5⟩ := hw.m e (List.mem_of_getElem? hg)
      by_cases h1 : k < e.at'
      · simp only [if_pos h1]; rfl
      · simp only [if_neg h1]
        have e1 : w64 (e.start + k) = e.start + k := w64_in (by omega) (by omega)
        have e2 : w64 (e.start + k - e.at') = e.start + k - e.at' := w64_in (by omega) (by omega)
        rw [e1, e2]; rfl
  · rw [if_neg (by simp [h0]), look_far fun e he => by have := (hw.m e he).a; omega]
    rfl

/-! ### one more -/
theorem ins_wx {l : List Xt} {e : Xt} (hl : checkX l = true) (he : mayX e = true) (hc : clashX l (behindX l e.at') e = false) (ha : apartX (insL l (behindX l e.at') e) = true) : WX (insL l (behindX l e.at') e) := by
  have hw := wx_of_check hl
  have hme := (mayX_iff e).1 he
  have hi := behindX_le l e.at'
  have h1 : ∀ a ∈ l.take (behindX l e.at'), a.at' + a.len ≤ e.at' := by
    intro a ha
    obtain ⟨j, hj⟩ := List.getElem?_of_mem ha
    rw [List.getElem?_take] at hj
    split at hj
    · rename_i hlt
      obtain ⟨hjl, hj2⟩ := List.getElem?_eq_some_iff.1 hj
      have := List.not_of_lt_findIdx hlt
      rw [← (hw.m a (hj2 ▸ List.getElem_mem hjl)).endX]
      have h2 : l[j] = a := hj2
      simp only [h2, decide_eq_true_eq, Bool.not_eq_true, decide_eq_false_iff_not] at this
      omega
    · cases hj
  have h2 : ∀ b ∈ l.drop (behindX l e.at'), e.at' + e.len ≤ b.at' := by
    intro b hb
    have hp : (l.drop (behindX l e.at')).Pairwise RX := hw.r.sublist (List.drop_sublist _ _)
    cases hd : l.drop (behindX l e.at') with
    | nil => rw [hd] at hb; cases hb
    | cons f r =>
      have hf : l[behindX l e.at']? = some f := by
        have := List.getElem?_drop (xs := l) (i := behindX l e.at') (j := 0)
        rw [hd] at this
        simpa using this.symm
      have hcl : e.at' + e.len ≤ f.at' := by
        unfold clashX at hc
        rw [hf] at hc
        simp only [decide_eq_false_iff_not, hme.endX] at hc
        omega
      rw [hd] at hb hp
      rcases List.mem_cons.1 hb with rfl | hb
      · exact hcl
      · have h3 := ((List.pairwise_cons.1 hp).1 b hb).1
        have h4 := (hw.m f (List.mem_of_getElem? hf)).n
        omega
  refine ⟨fun x hx => ?_, ?_⟩
  · simp only [insL, List.mem_append, List.mem_cons] at hx
    rcases hx with hx | rfl | hx
    · exact hw.m x (List.mem_of_mem_take hx)
    · exact hme
    · exact hw.m x (List.mem_of_mem_drop hx)
  · have hd := (apart_pw _).1 ha
    unfold insL at hd ⊢
    rw [List.pairwise_append, List.pairwise_cons] at hd ⊢
    obtain ⟨d1, ⟨d2, d3⟩, d4⟩ := hd
    refine ⟨hw.r.sublist (List.take_sublist _ _), ⟨fun b hb => ⟨h2 b hb, d2 b hb⟩, hw.r.sublist (List.drop_sublist _ _)⟩, fun a ha b hb => ?_⟩
    rcases List.mem_cons.1 hb with rfl | hb'
    · exact ⟨h1 a ha, d4 a ha b hb⟩
    · have h3 := h1 a ha
      have h4 := h2 b hb'
      have h5 := hme.n
      exact ⟨by omega, d4 a ha b hb⟩

theorem ins_look {l : List Xt} {e : Xt} {i : Nat} (hw : WX (insL l i e)) (k : Int) : lookO (insL l i e) k = (look1 e k).or (lookO l k) ∧ (look1 e k ≠ none → lookO l k = none) := by
  have hr := hw.r
  unfold insL at hr
  rw [List.pairwise_append, List.pairwise_cons] at hr
  obtain ⟨r1, ⟨r2, r3⟩, r4⟩ := hr
  have hl : lookO l k = (lookO (l.take i) k).or (lookO (l.drop i) k) := by rw [← lookO_append, List.take_append_drop]
  have hcov : look1 e k ≠ none → lookO (l.take i) k = none ∧ lookO (l.drop i) k = none := by
    intro hn
    have hc : e.at' ≤ k ∧ k < e.at' + e.len := by
      apply Classical.byContradiction
      intro hc
      exact hn (if_neg hc)
    constructor
    · exact lookO_none fun a ha => if_neg (by have := (r4 a ha e (by simp)).1; omega)
    · exact lookO_none fun b hb => if_neg (by have := (r2 b hb).1; omega)
  constructor
  · unfold insL
    rw [lookO_append, lookO_cons, hl]
    cases he : look1 e k with
    | none => rfl
    | some x =>
      obtain ⟨h1, h2⟩ := hcov (by rw [he]; simp)
      rw [h1]; rfl
  · intro hn
    obtain ⟨h1, h2⟩ := hcov hn
    rw [hl, h1, h2]; rfl
end Go.Dv

/-
  DERIVED, MY OWN. WHAT A CUT LEAVES, AND WHAT A MARK MAKES, in plain Lean.
-/

set_option autoImplicit false
namespace Go.Dv
open Go Go.RowKit

structure Sub (x e : Xt) : Prop where
  m : MX x
  lo : e.at' ≤ x.at'
  hi : x.at' + x.len ≤ e.at' + e.len
  d : x.start - x.at' = e.start - e.at'

theorem flat_wx {f : Xt → List Xt} {l : List Xt} (hw : WX l) (hf : ∀ e, MX e → (∀ x ∈ f e, Sub x e) ∧ (f e).Pairwise RX) : WX (l.flatMap f) := by
  refine ⟨fun x hx => ?_, ?_⟩
  · obtain ⟨e, he, hx⟩ := List.mem_flatMap.1 hx
    exact ((hf e (hw.m e he)).1 x hx).m
  · rw [List.pairwise_flatMap]
    refine ⟨fun e he => (hf e (hw.m e he)).2, ?_⟩
    refine hw.r.imp_of_mem fun {a b} ha hb hr x hx y hy => ?_
    obtain ⟨⟨x1, x2, x3, x4, x5⟩, x6, x7, x8⟩ := (hf a (hw.m a ha)).1 x hx
    obtain ⟨⟨y1, y2, y3, y4, y5⟩, y6, y7, y8⟩ := (hf b (hw.m b hb)).1 y hy
    unfold RX at *
    omega

theorem flat_look {f : Xt → List Xt} {k : Int} {g : Option (Int × Bool) → Option (Int × Bool)} (hg : ∀ x y, g (x.or y) = (g x).or (g y)) (h0 : g none = none) :
    ∀ {l : List Xt}, (∀ e ∈ l, lookO (f e) k = g (look1 e k)) → lookO (l.flatMap f) k = g (lookO l k)
  | [], _ => by rw [List.flatMap_nil]; exact h0.symm
  | e :: l, h => by
    rw [List.flatMap_cons, lookO_append, lookO_cons, hg, h e (by simp), flat_look hg h0 fun x hx => h x (by simp [hx])]

theorem partX_eq {e : Xt} (h : MX e) {a b : Int} (h1 : e.at' ≤ a) (h2 : a ≤ b) (h3 : b ≤ e.at' + e.len) : partX e a b = ⟨a, e.start + a - e.at', b - a, e.un⟩ := by
  obtain ⟨m1, m2, m3, m4, m5⟩ := h
  unfold partX
  have e1 : w64 (e.start + a) = e.start + a := w64_in (by omega) (by omega)
  have e2 : w64 (e.start + a - e.at') = e.start + a - e.at' := w64_in (by omega) (by omega)
  have e3 : w64 (b - a) = b - a := w64_in (by omega) (by omega)
  rw [e1, e2, e3]

/-- The three pieces. -/
theorem piecesE_eq {e : Xt} (h : MX e) (p q : Int) (hpq : p ≤ q) : ∃ lo hi, e.at' ≤ lo ∧ lo ≤ hi ∧ hi ≤ e.at' + e.len ∧
    (∀ k, e.at' ≤ k → k < e.at' + e.len → (k < lo ↔ k < p) ∧ (k < hi ↔ k < q)) ∧
    piecesE p q e = (if e.at' < lo then [(⟨e.at', e.start + e.at' - e.at', lo - e.at', e.un⟩, false)] else []) ++
      ((if lo < hi then [(⟨lo, e.start + lo - e.at', hi - lo, e.un⟩, true)] else []) ++ (if hi < e.at' + e.len then [(⟨hi, e.start + hi - e.at', e.at' + e.len - hi, e.un⟩, false)] else [])) := by
  have he := h.endX
  have hn := h.n
  obtain ⟨lo, hlo⟩ : ∃ x, loX e p = x := ⟨_, rfl⟩
  obtain ⟨hi, hhi⟩ : ∃ x, loX e q = x := ⟨_, rfl⟩
  have h1 : min (max e.at' p) (e.at' + e.len) = lo := by rw [← hlo, loX, he]
  have h2 : min (max e.at' q) (e.at' + e.len) = hi := by rw [← hhi, loX, he]
  have h3 : max lo hi = hi := by omega
  refine ⟨lo, hi, by omega, by omega, by omega, fun k k1 k2 => by omega, ?_⟩
  unfold piecesE
  rw [hlo, hhi, h3, he]
  rw [partX_eq h (Int.le_refl _) (by omega) (by omega), partX_eq h (by omega) (by omega) (by omega), partX_eq h (by omega) (by omega) (Int.le_refl _)]

def leftE (p q : Int) (e : Xt) : List Xt := leftX (piecesE p q e)
def markE (p q : Int) (e : Xt) : List Xt := markX (piecesE p q e)
theorem leftX_append (a b : List (Xt × Bool)) : leftX (a ++ b) = leftX a ++ leftX b := by simp [leftX]
theorem markX_append (a b : List (Xt × Bool)) : markX (a ++ b) = markX a ++ markX b := by simp [markX]
theorem leftX_flat (p q : Int) : ∀ l : List Xt, leftX (piecesX p q l) = l.flatMap (leftE p q)
  | [] => rfl
  | e :: l => by
    have := leftX_flat p q l
    unfold piecesX at this ⊢
    rw [List.flatMap_cons, List.flatMap_cons, leftX_append, this]
    rfl
theorem markX_flat (p q : Int) : ∀ l : List Xt, markX (piecesX p q l) = l.flatMap (markE p q)
  | [] => rfl
  | e :: l => by
    have := markX_flat p q l
    unfold piecesX at this ⊢
    rw [List.flatMap_cons, List.flatMap_cons, markX_append, this]
    rfl

theorem leftE_ok {p q : Int} (hpq : p ≤ q) {e : Xt} (h : MX e) : (∀ x ∈ leftE p q e, Sub x e) ∧ (leftE p q e).Pairwise RX := by
  obtain ⟨lo, hi, h1, h2, h3, h4, h5⟩ := piecesE_eq h p q hpq
  obtain ⟨m1, m2, m3, m4, m5⟩ := h
  have hl : leftE p q e = (if e.at' < lo then [⟨e.at', e.start + e.at' - e.at', lo - e.at', e.un⟩] else []) ++ (if hi < e.at' + e.len then [⟨hi, e.start + hi - e.at', e.at' + e.len - hi, e.un⟩] else []) := by
    unfold leftE
    rw [h5]
    repeat' split
    all_goals simp [leftX]
  rw [hl]
  constructor
  · intro x hx
    rw [List.mem_append] at hx
    rcases hx with hx | hx
    · split at hx
      · simp only [List.mem_singleton] at hx
        subst hx
        exact ⟨⟨by simp only; omega, by simp only; omega, by simp only; omega, by simp only; omega, by simp only; omega⟩, by simp only; omega, by simp only; omega, by simp only; omega⟩
      · cases hx
    · split at hx
      · simp only [List.mem_singleton] at hx
        subst hx
        exact ⟨⟨by simp only; omega, by simp only; omega, by simp only; omega, by simp only; omega, by simp only; omega⟩, by simp only; omega, by simp only; omega, by simp only; omega⟩
      · cases hx
  · repeat' split
    all_goals simp [RX]
    all_goals omega

theorem leftE_look {p q : Int} (hpq : p ≤ q) {e : Xt} (h : MX e) (k : Int) : lookO (leftE p q e) k = if p ≤ k ∧ k < q then none else look1 e k := by
  obtain ⟨lo, hi, h1, h2, h3, h4, h5⟩ := piecesE_eq h p q hpq
  obtain ⟨m1, m2, m3, m4, m5⟩ := h
  have hl : leftE p q e = (if e.at' < lo then [⟨e.at', e.start + e.at' - e.at', lo - e.at', e.un⟩] else []) ++ (if hi < e.at' + e.len then [⟨hi, e.start + hi - e.at', e.at' + e.len - hi, e.un⟩] else []) := by
    unfold leftE
    rw [h5]
    repeat' split
    all_goals simp [leftX]
  have a1 : lookO (if e.at' < lo then [⟨e.at', e.start + e.at' - e.at', lo - e.at', e.un⟩] else []) k = if e.at' ≤ k ∧ k < lo then some (e.start + k - e.at', e.un) else none := by
    by_cases c : e.at' < lo
    · rw [if_pos c, lookO_cons, lookO_nil]
      unfold look1
      simp only
      by_cases d : e.at' ≤ k ∧ k < lo
      · rw [if_pos d, if_pos (by omega), show e.start + e.at' - e.at' + k - e.at' = e.start + k - e.at' by omega]; rfl
      · rw [if_neg d, if_neg (by omega)]; rfl
    · rw [if_neg c, if_neg (by omega)]; rfl
  have a2 : lookO (if hi < e.at' + e.len then [⟨hi, e.start + hi - e.at', e.at' + e.len - hi, e.un⟩] else []) k = if hi ≤ k ∧ k < e.at' + e.len then some (e.start + k - e.at', e.un) else none := by
    by_cases c : hi < e.at' + e.len
    · rw [if_pos c, lookO_cons, lookO_nil]
      unfold look1
      simp only
      by_cases d : hi ≤ k ∧ k < e.at' + e.len
      · rw [if_pos d, if_pos (by omega), show e.start + hi - e.at' + k - hi = e.start + k - e.at' by omega]; rfl
      · rw [if_neg d, if_neg (by omega)]; rfl
    · rw [if_neg c, if_neg (by omega)]; rfl
  rw [hl, lookO_append, a1, a2]
  unfold look1
  by_cases c : e.at' ≤ k ∧ k < e.at' + e.len
  · obtain ⟨k1, k2⟩ := h4 k c.1 c.2
    rw [if_pos c]
    by_cases d : p ≤ k ∧ k < q
    · rw [if_pos d, if_neg (by omega), if_neg (by omega)]; rfl
    · rw [if_neg d]
      by_cases d1 : k < lo
      · rw [if_pos (by omega)]; rfl
      · rw [if_neg (by omega), if_pos (by omega)]; rfl
  · rw [if_neg c, if_neg (by omega), if_neg (by omega)]
    split <;> rfl

theorem markE_eq {p q : Int} (hpq : p ≤ q) {e : Xt} (h : MX e) : ∃ lo hi, e.at' ≤ lo ∧ lo ≤ hi ∧ hi ≤ e.at' + e.len ∧ (∀ k, e.at' ≤ k → k < e.at' + e.len → (k < lo ↔ k < p) ∧ (k < hi ↔ k < q)) ∧
    markE p q e = (if e.at' < lo then [⟨e.at', e.start + e.at' - e.at', lo - e.at', e.un⟩] else []) ++
      ((if lo < hi then [⟨lo, e.start + lo - e.at', hi - lo, false⟩] else []) ++ (if hi < e.at' + e.len then [⟨hi, e.start + hi - e.at', e.at' + e.len - hi, e.un⟩] else [])) := by
  obtain ⟨lo, hi, h1, h2, h3, h4, h5⟩ := piecesE_eq h p q hpq
  refine ⟨lo, hi, h1, h2, h3, h4, ?_⟩
  unfold markE
  rw [h5]
  repeat' split
  all_goals simp [markX]

theorem markE_ok {p q : Int} (hpq : p ≤ q) {e : Xt} (h : MX e) : (∀ x ∈ markE p q e, Sub x e) ∧ (markE p q e).Pairwise RX := by
  obtain ⟨lo, hi, h1, h2, h3, h4, hl⟩ := markE_eq hpq h
  obtain ⟨m1, m2, m3, m4, m5⟩ := h
  rw [hl]
  constructor
  · intro x hx
    rw [List.mem_append, List.mem_append] at hx
    rcases hx with hx | hx | hx
    all_goals
      split at hx
      · simp only [List.mem_singleton] at hx
        subst hx
        exact ⟨⟨by simp only; omega, by simp only; omega, by simp only; omega, by simp only; omega, by simp only; omega⟩, by simp only; omega, by simp only; omega, by simp only; omega⟩
      · cases hx
  · repeat' split
    all_goals simp [RX]
    all_goals omega

theorem markE_look {p q : Int} (hpq : p ≤ q) {e : Xt} (h : MX e) (k : Int) : lookO (markE p q e) k = (look1 e k).map fun x => (x.1, x.2 && !decide (p ≤ k ∧ k < q)) := by
  obtain ⟨lo, hi, h1, h2, h3, h4, hl⟩ := markE_eq hpq h
  obtain ⟨m1, m2, m3, m4, m5⟩ := h
  have one : ∀ (a b : Int) (u : Bool), lookO (if a < b then [⟨a, e.start + a - e.at', b - a, u⟩] else []) k = if a ≤ k ∧ k < b then some (e.start + k - e.at', u) else none := by
    intro a b u
    by_cases c : a < b
    · rw [if_pos c, lookO_cons, lookO_nil]
      unfold look1
      simp only
      by_cases d : a ≤ k ∧ k < b
      · rw [if_pos d, if_pos (by omega), show e.start + a - e.at' + k - a = e.start + k - e.at' by omega]; rfl
      · rw [if_neg d, if_neg (by omega)]; rfl
    · rw [if_neg c, if_neg (by omega)]; rfl
  rw [hl, lookO_append, lookO_append, one, one, one]
  unfold look1
  by_cases c : e.at' ≤ k ∧ k < e.at' + e.len
  · obtain ⟨k1, k2⟩ := h4 k c.1 c.2
    rw [if_pos c]
    by_cases d1 : k < lo
    · have hd : decide (p ≤ k ∧ k < q) = false := decide_eq_false (by omega)
      rw [if_pos (by omega), hd]; simp
    · rw [if_neg (by omega)]
      by_cases d2 : k < hi
      · have hd : decide (p ≤ k ∧ k < q) = true := decide_eq_true (by omega)
        rw [if_pos (by omega), hd]; simp
      · have hd : decide (p ≤ k ∧ k < q) = false := decide_eq_false (by omega)
        rw [if_neg (by omega), if_pos (by omega), hd]; simp
  · rw [if_neg c, if_neg (by omega), if_neg (by omega), if_neg (by omega)]; rfl

theorem left_wx {p q : Int} (hpq : p ≤ q) {l : List Xt} (hw : WX l) : WX (leftX (piecesX p q l)) := by
  rw [leftX_flat]; exact flat_wx hw fun e he => leftE_ok hpq he
theorem mark_wx {p q : Int} (hpq : p ≤ q) {l : List Xt} (hw : WX l) : WX (markX (piecesX p q l)) := by
  rw [markX_flat]; exact flat_wx hw fun e he => markE_ok hpq he
theorem left_look {p q : Int} (hpq : p ≤ q) {l : List Xt} (hw : WX l) (k : Int) : lookO (leftX (piecesX p q l)) k = if p ≤ k ∧ k < q then none else lookO l k := by
  rw [leftX_flat]
  refine flat_look (g := fun x => if p ≤ k ∧ k < q then none else x) (fun x y => ?_) ?_ fun e he => leftE_look hpq (hw.m e he) k
  · split <;> rfl
  · split <;> rfl
theorem mark_look {p q : Int} (hpq : p ≤ q) {l : List Xt} (hw : WX l) (k : Int) : lookO (markX (piecesX p q l)) k = (lookO l k).map fun x => (x.1, x.2 && !decide (p ≤ k ∧ k < q)) := by
  rw [markX_flat]
  exact flat_look (g := fun o => o.map fun x => (x.1, x.2 && !decide (p ≤ k ∧ k < q))) (fun x y => by cases x <;> rfl) rfl fun e he => markE_look hpq (hw.m e he) k
end Go.Dv

/-
  DERIVED, MY OWN. PUT, CUT AND MARK: WHAT COMES OF THEM, in plain Lean.
-/

set_option autoImplicit false
namespace Go.Dv
open Go Go.RowKit

structure PutOk (l : List Xt) (e : Xt) (a : List Xt) : Prop where
  c : checkX a = true
  m : MX e
  f : ∀ k : Int, k ≤ 1000 → findX a k = told ((look1 e k).or (lookO l k))
  n : ∀ k : Int, look1 e k ≠ none → lookO l k = none
theorem put_cases {l : List Xt} (e : Xt) (hl : checkX l = true) : (∃ c : Int, c ≠ 0 ∧ out9 l e = outErr c) ∨ (∃ a, PutOk l e a ∧ out9 l e = ⟨[.own 24 4 true (a.map Xt.enc), .sc (vi 0) true], none⟩) := by
  unfold out9
  rw [hl]
  cases he : mayX e
  · exact .inl ⟨1, by decide, by simp⟩
  · simp only [Bool.and_self, if_true]
    cases hc : clashX l (behindX l e.at') e
    · cases ha : apartX (insL l (behindX l e.at') e)
      · exact .inl ⟨4, by decide, by simp⟩
      · simp only [Bool.not_true, Bool.or_self, Bool.false_eq_true, if_false]
        have hw := ins_wx hl he hc ha
        have hlk := fun k => ins_look (i := behindX l e.at') hw k
        obtain ⟨m, hm⟩ : ∃ m, insL l (behindX l e.at') e = m := ⟨_, rfl⟩
        have hne : m ≠ [] := by rw [← hm]; simp [insL]
        rw [hm] at hw hlk ⊢
        unfold out29
        by_cases h60 : (mergeX m).length > 60
        · exact .inl ⟨9, by decide, by rw [if_pos h60]; rfl⟩
        · rw [if_neg h60, if_neg hne]
          obtain ⟨h1, h2, h3⟩ := mergeX_all hw
          have hck := check_of h1 h2 (by omega)
          exact .inr ⟨mergeX m, ⟨hck, (mayX_iff e).1 he, fun k hk => by rw [find_told hck k hk, h3 k, (hlk k).1], fun k => (hlk k).2⟩, rfl⟩
    · exact .inl ⟨4, by decide, by simp⟩

structure CutOk (l : List Xt) (p q : Int) (b : List Xt) : Prop where
  c : checkX b = true
  f : ∀ k : Int, k ≤ 1000 → findX b k = told (if p ≤ k ∧ k < q then none else lookO l k)
theorem cut_cases {l : List Xt} (p q : Int) : (∃ c : Int, c ≠ 0 ∧ out10 l p q = ⟨[.sc (.sl true []) true, .sc (.sl true []) true, .sc (vi c) true], none⟩) ∨
    (∃ b xs, CutOk l p q b ∧ out10 l p q = ⟨[outSl (b.map Xt.enc), outSl xs, .sc (vi 0) true], none⟩) := by
  unfold out10
  cases hr : rangedX l p q
  · exact .inl ⟨1, by decide, by simp⟩
  · simp only [rangedX, Bool.and_eq_true, decide_eq_true_eq] at hr
    obtain ⟨hl, h0, hpq⟩ := hr
    have hw := wx_of_check hl
    have hw2 := left_wx hpq hw
    rw [if_pos rfl]
    by_cases h60 : (mergeX (leftX (piecesX p q l))).length > 60
    · exact .inl ⟨9, by decide, by rw [if_pos h60]⟩
    · rw [if_neg h60]
      obtain ⟨h1, h2, h3⟩ := mergeX_all hw2
      have hck := check_of h1 h2 (by omega)
      exact .inr ⟨_, _, ⟨hck, fun k hk => by rw [find_told hck k hk, h3 k, left_look hpq hw]⟩, rfl⟩

structure MarkOk (l : List Xt) (p q : Int) (b : List Xt) : Prop where
  c : checkX b = true
  f : ∀ k : Int, k ≤ 1000 → findX b k = told ((lookO l k).map fun x => (x.1, x.2 && !decide (p ≤ k ∧ k < q)))
theorem mark_cases {l : List Xt} (p q : Int) : (∃ c : Int, c ≠ 0 ∧ out11 l p q = outErr c) ∨
    (∃ b, MarkOk l p q b ∧ out11 l p q = ⟨[outSl (b.map Xt.enc), .sc (vi 0) true], none⟩) := by
  unfold out11
  cases hr : rangedX l p q
  · exact .inl ⟨1, by decide, by simp [outErr]⟩
  · simp only [rangedX, Bool.and_eq_true, decide_eq_true_eq] at hr
    obtain ⟨hl, h0, hpq⟩ := hr
    have hw := wx_of_check hl
    have hw2 := mark_wx hpq hw
    rw [if_pos rfl]
    by_cases h60 : (mergeX (markX (piecesX p q l))).length > 60
    · exact .inl ⟨9, by decide, by rw [if_pos h60]; rfl⟩
    · rw [if_neg h60]
      obtain ⟨h1, h2, h3⟩ := mergeX_all hw2
      have hck := check_of h1 h2 (by omega)
      exact .inr ⟨_, ⟨hck, fun k hk => by rw [find_told hck k hk, h3 k, mark_look hpq hw]⟩, rfl⟩

def sp3 : FSpec := ⟨[false, false, false], fun ins => match ins with
  | [.sc (.sl n xs), .ag cs, .sc (.val (.int .i64 _))] => (match decL xs, decX cs with
    | some l, some _ => if !n || l.isEmpty then some ⟨[.sc (vb true) true], none⟩ else none
    | _, _ => none)
  | _ => none⟩
theorem sp3_inv {ins : List In} {out : Out} (h : sp3.run ins = some out) : ∃ (n : Bool) (l : List Xt) (e : Xt) (q : Int), ins = [.sc (.sl n (l.map Xt.enc)), .ag e.enc, .sc (vi q)] ∧ (n = true → l = []) ∧ out = ⟨[.sc (vb true) true], none⟩ := by
  simp only [sp3] at h
  split at h
  · rename_i n xs cs q
    cases hd : decL xs with
    | none => simp [hd] at h
    | some l =>
      cases he : decX cs with
      | none => simp [hd, he] at h
      | some e =>
        rw [hd, he] at h
        simp only at h
        split at h
        · rename_i hl
          simp only [Bool.or_eq_true, Bool.not_eq_true', List.isEmpty_iff] at hl
          simp only [Option.some.injEq] at h
          exact ⟨n, l, e, q, by rw [enc_of_decL hd, enc_of_decX he], fun e => hl.resolve_left (by simp [e]), h.symm⟩
        · cases h
  · cases h
end Go.Dv
