/- Part 1 of 5 of a proof that the statement holds: own lemmas and walks. No further conditions. -/
import Derived.Laws.FloatArith
import Derived.Laws.Cover2
import Derived.WalkKit
import Derived.Shelf.Strings.Builder1
import Derived.Shelf.Strings.Trim
import Derived.Shelf.Small.Utf8
import Derived.Shelf.Small.Strs
import Derived.Shelf.Strings.BuilderF
import Derived.Shelf.Strings.BuilderK
import Derived.Shelf.Strings.Search1
import Derived.Shelf.Strings.Search2
import Derived.Shelf.Strings.Search3
import Derived.Shelf.Strings.Count
import Derived.Shelf.LaysM
import Derived.Shelf.Strings.Shaped
import Derived.Shelf.Strings.LastIndex
import Derived.Shelf.Strings.Split
import Derived.Shelf.Strings.Runes
import Derived.Shelf.Strings.AsciiSet
import Derived.Shelf.Unicode.DecodeSlow
import Derived.Test.YtomckoldfdeidaaGreatDoorProg
import Derived.Lib.Strings
import Derived.Lib.Bytealg
import Derived.Lib.Split
import Derived.Lib.SplitLaws
import Derived.Lib.LastIndexByte
import Derived.Lib.TrimByte
import Derived.Below
import Derived.WalkSpells
import Derived.WalkLawsBesides
import Derived.Deep.QuietTactic
import Derived.BigQuiet
import Derived.Deep.LoopGhost
import Derived.Lib.Hide
import Derived.Lib.SmallJoins
import Derived.Laws.Bits64b
import Derived.Laws.Externs
import Derived.Lib.ConvBytes
import Derived.OwnWalk
import Derived.Deep.AppendLies
import Derived.Lib.Slices
import Derived.Lib.Walk
import Derived.Lib.Builder
import Derived.Lib.AppendStr
import Derived.Lib.UnsafeStr
import Derived.Lib.MakeNoZero
import Derived.Laws.IdiomCopy
import Derived.Laws.BitsLemmas
import Derived.Laws.BytesArg

/- PLAIN WORDS: floats that are not below nought, by their words. -/
namespace Go.Proofs.YtomckoldfdeidaaGreatDoor
open Go

def INFW : Nat := 9218868437227405312
def NANW : Nat := 9221120237041090561

theorem infRung_eq : Ieee.double.infRung = INFW := by decide
theorem signW_eq : Ieee.double.signWeight = 9223372036854775808 := by decide
theorem binade_eq : Ieee.double.binade = 4503599627370496 := by decide
theorem least_eq : Ieee.double.leastPlace = -1074 := by decide

/-- Exponent and mantissa of a rung. -/
def exOf (a : Nat) : Nat := a / 4503599627370496 - 1
def maOf (a : Nat) : Nat := if a < 4503599627370496 then a else 4503599627370496 + a % 4503599627370496

theorem read_word (a : Nat) (h : a < INFW) : Ieee.double.read a = .number false (maOf a) (-1074 + (exOf a : Nat)) := by
  unfold INFW at h
  unfold Ieee.Format.read
  rw [signW_eq, binade_eq, infRung_eq, least_eq]
  have e1 : a / 9223372036854775808 = 0 := by omega
  have e2 : a % 9223372036854775808 = a := by omega
  rw [e1, e2]
  unfold maOf exOf INFW
  by_cases h1 : a < 4503599627370496
  · simp only [if_pos h1]
    have : a / 4503599627370496 = 0 := by omega
    rw [this]; simp
  · simp only [if_neg h1, if_pos h]
    simp

theorem read_inf : Ieee.double.read INFW = .infinity false := by decide

theorem ma_bounds (a : Nat) : maOf a < 9007199254740992 ∧ (0 < exOf a → 4503599627370496 ≤ maOf a) ∧ a = exOf a * 4503599627370496 + maOf a := by
  unfold maOf exOf
  split
  · have : a / 4503599627370496 = 0 := by omega
    omega
  · have h2 := Nat.div_add_mod a 4503599627370496
    have h3 := Nat.mod_lt a (show 0 < 4503599627370496 by omega)
    have h4 : 1 ≤ a / 4503599627370496 := by omega
    refine ⟨by omega, by omega, ?_⟩
    omega

theorem shift_mono {a b : Nat} (h : a < b) : maOf a * 2 ^ exOf a < maOf b * 2 ^ exOf b := by
  obtain ⟨a1, a2, a3⟩ := ma_bounds a
  obtain ⟨b1, b2, b3⟩ := ma_bounds b
  rcases Nat.lt_trichotomy (exOf a) (exOf b) with e | e | e
  · obtain ⟨d, hd⟩ : ∃ d, exOf b = exOf a + 1 + d := ⟨exOf b - exOf a - 1, by omega⟩
    have hb := b2 (by omega)
    rw [hd, Nat.pow_add, Nat.pow_succ]
    have hp : 0 < 2 ^ exOf a := Nat.two_pow_pos _
    have hq : 0 < 2 ^ d := Nat.two_pow_pos _
    have h1 : maOf a * 2 ^ exOf a < 9007199254740992 * 2 ^ exOf a := Nat.mul_lt_mul_of_pos_right a1 hp
    have h2 : 4503599627370496 * (2 ^ exOf a * 2) ≤ maOf b * (2 ^ exOf a * 2) := Nat.mul_le_mul_right _ hb
    have h3 : maOf b * (2 ^ exOf a * 2) ≤ maOf b * (2 ^ exOf a * 2 * 2 ^ d) := Nat.mul_le_mul_left _ (Nat.le_mul_of_pos_right _ hq)
    omega
  · rw [e]
    have hp : 0 < 2 ^ exOf b := Nat.two_pow_pos _
    have : maOf a < maOf b := by rw [e] at a3; omega
    exact Nat.mul_lt_mul_of_pos_right this hp
  · exfalso
    have ha := a2 (by omega)
    have h1 : (exOf b + 1) * 4503599627370496 ≤ exOf a * 4503599627370496 := Nat.mul_le_mul_right _ e
    omega

theorem signed_val (m k : Nat) : Ieee.signed false m k = ((m * 2 ^ k : Nat) : Int) := by
  unfold Ieee.signed; simp [Nat.shiftLeft_eq]

theorem cmp_int (x y : Int) : compare x y = if x < y then .lt else if x = y then .eq else .gt := rfl
theorem cmp_nat (x y : Nat) : compare x y = if x < y then .lt else if x = y then .eq else .gt := Nat.compare_eq_ite_lt x y |>.trans (by
  split
  · rfl
  · split
    · rw [if_neg (by omega)]
    · rw [if_pos (by omega)])

/-- Not below nought, no NaN: floats stand to each other as their words. -/
theorem order_words {a b : Nat} (ha : a ≤ INFW) (hb : b ≤ INFW) : Ieee.double.order a b = some (compare a b) := by
  unfold Ieee.Format.order
  by_cases ea : a = INFW
  · subst ea
    rw [read_inf]
    by_cases eb : b = INFW
    · subst eb; rw [read_inf]; simp [Ieee.Datum.order]
    · rw [read_word b (by omega)]
      have : compare INFW b = .gt := by rw [Nat.compare_eq_gt]; omega
      rw [this]; rfl
  · rw [read_word a (by omega)]
    by_cases eb : b = INFW
    · subst eb; rw [read_inf]
      have : compare a INFW = .lt := by rw [Nat.compare_eq_lt]; omega
      rw [this]; rfl
    · rw [read_word b (by omega)]
      simp only [Ieee.Datum.order, signed_val]
      obtain ⟨p, hp⟩ : ∃ p, p = min (exOf a) (exOf b) := ⟨_, rfl⟩
      have e1 : ((-1074 + (exOf a : Int)) - min (-1074 + (exOf a : Int)) (-1074 + (exOf b : Int))).toNat = exOf a - p := by omega
      have e2 : ((-1074 + (exOf b : Int)) - min (-1074 + (exOf a : Int)) (-1074 + (exOf b : Int))).toNat = exOf b - p := by omega
      rw [e1, e2, cmp_int, cmp_nat]
      have q1 : maOf a * 2 ^ exOf a = maOf a * 2 ^ (exOf a - p) * 2 ^ p := by
        rw [Nat.mul_assoc, ← Nat.pow_add]; congr 2; omega
      have q2 : maOf b * 2 ^ exOf b = maOf b * 2 ^ (exOf b - p) * 2 ^ p := by
        rw [Nat.mul_assoc, ← Nat.pow_add]; congr 2; omega
      have hpp : 0 < 2 ^ p := Nat.two_pow_pos _
      rcases Nat.lt_trichotomy a b with h | h | h
      · have := shift_mono h
        rw [q1, q2] at this
        have := Nat.lt_of_mul_lt_mul_right this
        rw [if_pos (by omega), if_pos h]
      · subst h; simp
      · have := shift_mono h
        rw [q1, q2] at this
        have := Nat.lt_of_mul_lt_mul_right this
        rw [if_neg (by omega), if_neg (by omega), if_neg (by omega), if_neg (by omega)]

theorem ofInt_near (n : Nat) : floatOfInt .f64 (n : Int) = Ieee.double.nearest false n 0 := by
  unfold floatOfInt FloatKind.nearest FloatKind.encode Ieee.Format.write
  have : decide ((n : Int) < 0) = false := by rw [decide_eq_false_iff_not]; omega
  simp only [this, Int.natAbs_natCast]
  unfold FloatKind.format
  rfl

theorem log2_le (n : Nat) (h1 : 1 ≤ n) (h2 : n < 9007199254740992) : n.log2 ≤ 52 := by
  rcases Nat.lt_or_ge n.log2 53 with h | h
  · omega
  · have h0 := Nat.log2_self_le (n := n) (by omega)
    have h3 : 2 ^ 53 ≤ 2 ^ n.log2 := Nat.pow_le_pow_right (by omega) h
    have h4 : (2 : Nat) ^ 53 = 9007199254740992 := by decide
    rw [h4] at h3
    omega

theorem cut_zero (m : Nat) : Ieee.Toward.even.cut false m 0 = m := by
  unfold Ieee.Toward.cut
  have e : (1 : Nat) <<< min 0 (m.log2 + 2) = 1 := by simp
  simp only [e, Nat.div_one, Nat.mod_one]
  simp

theorem near_word (n : Nat) (h1 : 1 ≤ n) (h2 : n < 9007199254740992) : Ieee.double.nearest false n 0 = min ((n.log2 + 1022) * 4503599627370496 + n * 2 ^ (52 - n.log2)) INFW := by
  have hl := log2_le n h1 h2
  have hfb : (Ieee.double.fractionBits : Int) = 52 := by decide
  unfold Ieee.Format.nearest
  rw [if_neg (show ¬ n = 0 by omega)]
  have elast : max (0 + (n.log2 : Int) - (Ieee.double.fractionBits : Int)) Ieee.double.leastPlace = (n.log2 : Int) - 52 := by rw [hfb, least_eq]; omega
  simp only [elast]
  have d0 : ((n.log2 : Int) - 52 - 0).toNat = 0 := by omega
  have d1 : (0 - ((n.log2 : Int) - 52)).toNat = 52 - n.log2 := by omega
  have e3 : ((n.log2 : Int) - 52 - -1074).toNat = n.log2 + 1022 := by omega
  rw [d0, d1, cut_zero, least_eq, binade_eq, infRung_eq, Nat.shiftLeft_eq, e3]
  unfold Ieee.Format.word
  exact if_neg (by decide)

theorem ofInt_word (n : Nat) (h1 : 1 ≤ n) (h2 : n < 9007199254740992) : 0 < floatOfInt .f64 n ∧ floatOfInt .f64 n < INFW := by
  have hl := log2_le n h1 h2
  rw [ofInt_near, near_word n h1 h2]
  have hs : n < 2 ^ (n.log2 + 1) := Nat.lt_log2_self
  have hup : n * 2 ^ (52 - n.log2) < 9007199254740992 := by
    have h5 : n * 2 ^ (52 - n.log2) < 2 ^ (n.log2 + 1) * 2 ^ (52 - n.log2) := Nat.mul_lt_mul_of_pos_right hs (Nat.two_pow_pos _)
    rw [← Nat.pow_add] at h5
    have e2 : n.log2 + 1 + (52 - n.log2) = 53 := by omega
    rw [e2] at h5
    have h4 : (2 : Nat) ^ 53 = 9007199254740992 := by decide
    rw [h4] at h5
    exact h5
  have hlo : 1 ≤ n * 2 ^ (52 - n.log2) := Nat.mul_pos h1 (Nat.two_pow_pos _)
  generalize n * 2 ^ (52 - n.log2) = q at *
  generalize n.log2 = l at *
  unfold INFW
  omega

theorem ofInt_zero : floatOfInt .f64 0 = 0 := by decide

theorem ma_pos {a : Nat} (h : 0 < a) : 0 < maOf a := by
  obtain ⟨h1, h2, h3⟩ := ma_bounds a
  rcases Nat.eq_zero_or_pos (exOf a) with e | e
  · rw [e] at h3; omega
  · have := h2 e; omega

theorem nearest_le (m : Nat) (p : Int) : Ieee.double.nearest false m p ≤ INFW := by
  unfold Ieee.Format.nearest
  split
  · simp [Ieee.Format.word]
  · simp only [Ieee.Format.word, Bool.false_eq_true, if_false]
    rw [infRung_eq]
    exact Nat.min_le_right _ _

/-- The share of two numbers: a word that is not below nought, no NaN. -/
def shareW (n d : Nat) : Nat := (Ieee.double.div (floatOfInt .f64 n) (floatOfInt .f64 d)).getD 0

theorem ofInt_le (n : Nat) (h2 : n < 9007199254740992) : floatOfInt .f64 n < INFW := by
  rcases Nat.eq_zero_or_pos n with e | e
  · subst e; decide
  · exact (ofInt_word n e h2).2

theorem share_word (n d : Nat) (hn : n < 9007199254740992) (h1 : 1 ≤ d) (h2 : d < 9007199254740992) :
    Ieee.double.div (floatOfInt .f64 n) (floatOfInt .f64 d) = some (shareW n d) ∧ shareW n d ≤ INFW := by
  obtain ⟨hd0, hd1⟩ := ofInt_word d h1 h2
  have hn1 := ofInt_le n hn
  have key : ∃ m p, Ieee.double.div (floatOfInt .f64 n) (floatOfInt .f64 d) = some (Ieee.double.nearest false m p) := by
    unfold Ieee.Format.div
    rw [read_word _ hn1, read_word _ hd1]
    simp only [Ieee.Datum.quotient]
    rw [if_neg (by have := ma_pos hd0; omega)]
    exact ⟨_, _, rfl⟩
  obtain ⟨m, p, hk⟩ := key
  unfold shareW
  rw [hk]
  exact ⟨rfl, nearest_le m p⟩
end Go.Proofs.YtomckoldfdeidaaGreatDoor

/-
  DERIVED: THE SHELF's CONTRACTS AT THIS DUMP, IN PLAIN WORDS (tools/lay-plain.mjs out of 'TryzShelf.lean', which tools/lay-shelf.mjs wrote): THE SAME DECLARATIONS UNDER THE SAME NAMES: 'import', 'namespace', 'open', 'def', 'theorem' AND NOTHING ELSE: no command of the shelf's: FOR A HAND-IN. Each laying: the table of numbers ('.._ren') and one theorem, a field a fact of the dump's own or the kernel's comparison; each contract: ONE APPLICATION.
-/
namespace Go.Proofs
open Go.Shelf
def Tryz.lays169_ren : Go.Shelf.Ren := ⟨fun | 169 => 68 | n => n, fun | 70 => 97 | 9 => 9 | 0 => 0 | 72 => 99 | 37 => 91 | 127 => 116 | 3 => 3 | 5 => 5 | n => n, fun | n => n⟩
theorem Tryz.lays169 : Go.Proofs.Lays.n169 Tryz.prog Tryz.lays169_ren := {
  mixed := by kernel_rfl
  f169 := Tryz.func68.trans (congrArg some (by kernel_rfl))
  t0 := Tryz.underlying0
  a0 := Tryz.isAgg0
  z0 := Tryz.sizeOf0
  v0 := Tryz.zeroValue0
  t3 := Tryz.underlying3
  a3 := Tryz.isAgg3
  z3 := Tryz.sizeOf3
  v3 := Tryz.zeroValue3
  t9 := Tryz.underlying9
  a9 := Tryz.isAgg9
  z9 := Tryz.sizeOf9
  v9 := Tryz.zeroValue9
  t37 := Tryz.underlying91
  a37 := Tryz.isAgg91
  z37 := Tryz.sizeOf91
  v37 := Tryz.zeroValue91
  t70 := Tryz.underlying97
  a70 := Tryz.isAgg97
  z70 := Tryz.sizeOf97
  v70 := Tryz.zeroValue97
  t72 := Tryz.underlying99
  a72 := Tryz.isAgg99
  z72 := Tryz.sizeOf99
  v72 := Tryz.zeroValue99
  t127 := Tryz.underlying116
  a127 := Tryz.isAgg116
  z127 := Tryz.sizeOf116
  v127 := Tryz.zeroValue116 }
theorem Tryz.Builder_Extra_169 : Builder.Extra Tryz.prog Tryz.lays169_ren := {
  sizeBuilder := by kernel_rfl
  liesBuilder := by kernel_rfl
  t5 := Tryz.underlying5
  a5 := Tryz.isAgg5
  z5 := Tryz.sizeOf5
  v5 := Tryz.zeroValue5
  infoByte := by kernel_rfl
  cellsByte := by kernel_rfl
  sizeByte := by kernel_rfl
  neB5 := by decide }
open Go.RowKit in
/-- (*strings.Builder).String: "String returns the accumulated string.": OF A BUILDER THAT HOLDS AT LEAST ONE BYTE. ✋ THE MODEL FREEZES THOSE BYTES IN THE BUFFER (unsafe.String): a later write INTO them ends the model's run without an answer; a later append BEHIND them goes on. The statement's order of evaluation is drawn: one draw. (LAID: no walk: one application.) -/
theorem Tryz.Builder_String (B b : Nat) (l : List UInt8) (w : World) (h : Lib.IsBuilder 99 5 B b (Lib.byteCells l) w) (h0 : l ≠ []) :
    Calls Tryz.prog 68 #[.pointer (some ⟨b, 0, none⟩)] w fun e w' => e = .returned (.string ⟨l.toArray⟩) ∧ Below B w w' := Any.Builder_String Tryz.lays169 Tryz.Builder_Extra_169 B b l w h h0
open Go.RowKit in
/-- (*strings.Builder).String OF A BUILDER THAT HOLDS NO BYTE: the empty string. (Its buffer is nil, or a row of which it has taken nothing yet; where that row has NO capacity the model lays one new block for unsafe.SliceData's 'some address'.) One draw. (LAID: no walk: one application.) -/
theorem Tryz.Builder_String_empty (B b : Nat) (w : World) (h : Lib.IsBuilder 99 5 B b [] w) (hBw : B ≤ w.heap.size) :
    Calls Tryz.prog 68 #[.pointer (some ⟨b, 0, none⟩)] w fun e w' => e = .returned (.string ⟨#[]⟩) ∧ Below B w w' := Any.Builder_String_empty Tryz.lays169 Tryz.Builder_Extra_169 B b w h hBw
open Go.RowKit in
/-- (*strings.Builder).String: "String returns the accumulated string.": WHATEVER THE BUILDER HOLDS. (LAID: no walk: one application.) -/
theorem Tryz.Builder_String_any (B b : Nat) (l : List UInt8) (w : World) (h : Lib.IsBuilder 99 5 B b (Lib.byteCells l) w) (hBw : B ≤ w.heap.size) :
    Calls Tryz.prog 68 #[.pointer (some ⟨b, 0, none⟩)] w fun e w' => e = .returned (.string ⟨l.toArray⟩) ∧ Below B w w' := Any.Builder_String_any Tryz.lays169 Tryz.Builder_Extra_169 B b l w h hBw
def Tryz.lays232_ren : Go.Shelf.Ren := ⟨fun | 232 => 84 | n => n, fun | 9 => 9 | 5 => 5 | 3 => 3 | 4 => 4 | n => n, fun | n => n⟩
theorem Tryz.lays232 : Go.Proofs.Lays.n232 Tryz.prog Tryz.lays232_ren := {
  mixed := by kernel_rfl
  f232 := Tryz.func84.trans (congrArg some (by kernel_rfl))
  t3 := Tryz.underlying3
  a3 := Tryz.isAgg3
  z3 := Tryz.sizeOf3
  v3 := Tryz.zeroValue3
  t4 := Tryz.underlying4
  a4 := Tryz.isAgg4
  z4 := Tryz.sizeOf4
  v4 := Tryz.zeroValue4
  t5 := Tryz.underlying5
  a5 := Tryz.isAgg5
  z5 := Tryz.sizeOf5
  v5 := Tryz.zeroValue5
  t9 := Tryz.underlying9
  a9 := Tryz.isAgg9
  z9 := Tryz.sizeOf9
  v9 := Tryz.zeroValue9 }
open Go.RowKit in
/-- strings.trimRightByte (no doc; what TrimRight and Trim call at a cutset of one ASCII byte): the trailing bytes that are c are cut off. The world is as it was. ('hs': a string's length is a number that an int holds.) (LAID: no walk: one application.) -/
theorem Tryz.strings_trimRightByte (s : ByteArray) (c : UInt8) (w : World) (hs : s.size ≤ 9223372036854775807) :
    Calls Tryz.prog 84 #[.string s, .int .u8 c.toNat] w fun e w' => e = .returned (.string ⟨(Lib.trimRightB s.data.toList c).toArray⟩) ∧ w' = w := Any.strings_trimRightByte Tryz.lays232 s c w hs
def Tryz.lays162_ren : Go.Shelf.Ren := ⟨fun | 162 => 75 | 232 => 84 | 227 => 85 | 234 => 86 | 236 => 87 | 228 => 93 | 271 => 94 | 151 => 95 | 120 => 100 | 197 => 97 | 152 => 101 | 260 => 102 | 137 => 64 | 119 => 106 | 224 => 104 | 225 => 103 | 217 => 79 | 266 => 88 | n => n, fun | 9 => 9 | 4 => 4 | 3 => 3 | 5 => 5 | 117 => 122 | 116 => 121 | 0 => 0 | 124 => 125 | 21 => 21 | 105 => 130 | 46 => 108 | 119 => 135 | 139 => 138 | 138 => 137 | n => n, fun | 3 => 2 | 4 => 3 | n => n⟩
theorem Tryz.lays162 : Go.Proofs.Lays.n162 Tryz.prog Tryz.lays162_ren := {
  mixed := by kernel_rfl
  f119 := Tryz.func106.trans (congrArg some (by kernel_rfl))
  f120 := Tryz.func100.trans (congrArg some (by kernel_rfl))
  f137 := Tryz.func64.trans (congrArg some (by kernel_rfl))
  f151 := Tryz.func95.trans (congrArg some (by kernel_rfl))
  f152 := Tryz.func101.trans (congrArg some (by kernel_rfl))
  f162 := Tryz.func75.trans (congrArg some (by kernel_rfl))
  f197 := Tryz.func97.trans (congrArg some (by kernel_rfl))
  f217 := Tryz.func79.trans (congrArg some (by kernel_rfl))
  f224 := Tryz.func104.trans (congrArg some (by kernel_rfl))
  f225 := Tryz.func103.trans (congrArg some (by kernel_rfl))
  f227 := Tryz.func85.trans (congrArg some (by kernel_rfl))
  f228 := Tryz.func93.trans (congrArg some (by kernel_rfl))
  f232 := Tryz.func84.trans (congrArg some (by kernel_rfl))
  f234 := Tryz.func86.trans (congrArg some (by kernel_rfl))
  f236 := Tryz.func87.trans (congrArg some (by kernel_rfl))
  f260 := Tryz.func102.trans (congrArg some (by kernel_rfl))
  f266 := Tryz.func88.trans (congrArg some (by kernel_rfl))
  f271 := Tryz.func94.trans (congrArg some (by kernel_rfl))
  t0 := Tryz.underlying0
  a0 := Tryz.isAgg0
  z0 := Tryz.sizeOf0
  v0 := Tryz.zeroValue0
  t3 := Tryz.underlying3
  a3 := Tryz.isAgg3
  z3 := Tryz.sizeOf3
  v3 := Tryz.zeroValue3
  t4 := Tryz.underlying4
  a4 := Tryz.isAgg4
  z4 := Tryz.sizeOf4
  v4 := Tryz.zeroValue4
  t5 := Tryz.underlying5
  a5 := Tryz.isAgg5
  z5 := Tryz.sizeOf5
  v5 := Tryz.zeroValue5
  t9 := Tryz.underlying9
  a9 := Tryz.isAgg9
  z9 := Tryz.sizeOf9
  v9 := Tryz.zeroValue9
  t21 := Tryz.underlying21
  a21 := Tryz.isAgg21
  z21 := Tryz.sizeOf21
  v21 := Tryz.zeroValue21
  t46 := Tryz.underlying108
  a46 := Tryz.isAgg108
  z46 := Tryz.sizeOf108
  v46 := Tryz.zeroValue108
  t105 := Tryz.underlying130
  a105 := Tryz.isAgg130
  z105 := Tryz.sizeOf130
  v105 := Tryz.zeroValue130
  t116 := Tryz.underlying121
  a116 := Tryz.isAgg121
  z116 := Tryz.sizeOf121
  t117 := Tryz.underlying122
  a117 := Tryz.isAgg122
  z117 := Tryz.sizeOf122
  v117 := Tryz.zeroValue122
  t119 := Tryz.underlying135
  a119 := Tryz.isAgg135
  z119 := Tryz.sizeOf135
  t124 := Tryz.underlying125
  a124 := Tryz.isAgg125
  z124 := Tryz.sizeOf125
  v124 := Tryz.zeroValue125
  t138 := Tryz.underlying137
  a138 := Tryz.isAgg137
  z138 := Tryz.sizeOf137
  v138 := Tryz.zeroValue137
  t139 := Tryz.underlying138
  a139 := Tryz.isAgg138
  z139 := Tryz.sizeOf138
  v139 := Tryz.zeroValue138
  g3 := by kernel_rfl
  g4 := by kernel_rfl }
open Go.RowKit in
/-- strings.TrimRight: "TrimRight returns a slice of the string s, with all trailing Unicode code points contained in cutset removed.": AT A cutset OF ONE ASCII BYTE. The world is as it was. (LAID: no walk: one application.) -/
theorem Tryz.strings_TrimRight_one (s : ByteArray) (c : UInt8) (hc : c.toNat < 128) (w : World) (hs : s.size ≤ 9223372036854775807) :
    Calls Tryz.prog 75 #[.string s, .string ⟨#[c]⟩] w fun e w' => e = .returned (.string ⟨(Lib.trimRightB s.data.toList c).toArray⟩) ∧ w' = w := Any.strings_TrimRight_one Tryz.lays162 s c hc w hs
def Tryz.lays119_ren : Go.Shelf.Ren := ⟨fun | 119 => 106 | n => n, fun | 21 => 21 | 4 => 4 | n => n, fun | n => n⟩
theorem Tryz.lays119 : Go.Proofs.Lays.n119 Tryz.prog Tryz.lays119_ren := {
  mixed := by kernel_rfl
  f119 := Tryz.func106.trans (congrArg some (by kernel_rfl))
  t4 := Tryz.underlying4
  a4 := Tryz.isAgg4
  z4 := Tryz.sizeOf4
  v4 := Tryz.zeroValue4
  t21 := Tryz.underlying21
  a21 := Tryz.isAgg21
  z21 := Tryz.sizeOf21
  v21 := Tryz.zeroValue21 }
/-- utf8.ValidRune: "ValidRune reports whether r can be legally encoded as UTF-8. Code points that are out of range or a surrogate half are illegal.": IT RETURNS 'Lib.validRune r'; the world is as it was. (LAID: no walk: one application.) -/
theorem Tryz.utf8_ValidRune (r : Int) (w : World) :
    Calls Tryz.prog 106 #[.int .i32 r] w fun e w' => e = .returned (.bool (Lib.validRune r)) ∧ w' = w := Any.utf8_ValidRune Tryz.lays119 r w
def Tryz.lays120_ren : Go.Shelf.Ren := ⟨fun | 120 => 100 | n => n, fun | 5 => 5 | 4 => 4 | n => n, fun | n => n⟩
theorem Tryz.lays120 : Go.Proofs.Lays.n120 Tryz.prog Tryz.lays120_ren := {
  mixed := by kernel_rfl
  f120 := Tryz.func100.trans (congrArg some (by kernel_rfl))
  t4 := Tryz.underlying4
  a4 := Tryz.isAgg4
  z4 := Tryz.sizeOf4
  v4 := Tryz.zeroValue4
  t5 := Tryz.underlying5
  a5 := Tryz.isAgg5
  z5 := Tryz.sizeOf5
  v5 := Tryz.zeroValue5 }
/-- utf8.RuneStart: "RuneStart reports whether the byte could be the first byte of an encoded, possibly invalid rune. Second and subsequent bytes always have the top two bits set to 10.": IT RETURNS 'Lib.runeStart b'; the world is as it was. ('h0', 'h1': b is a byte: a caller has it of every byte that it was handed.) (LAID: no walk: one application.) -/
theorem Tryz.utf8_RuneStart (b : Int) (w : World) (h0 : 0 ≤ b) (h1 : b < 256) :
    Calls Tryz.prog 100 #[.int .u8 b] w fun e w' => e = .returned (.bool (Lib.runeStart b)) ∧ w' = w := Any.utf8_RuneStart Tryz.lays120 b w h0 h1
def Tryz.lays137_ren : Go.Shelf.Ren := ⟨fun | 137 => 64 | 217 => 79 | 266 => 88 | n => n, fun | 9 => 9 | 5 => 5 | 3 => 3 | n => n, fun | n => n⟩
theorem Tryz.lays137 : Go.Proofs.Lays.n137 Tryz.prog Tryz.lays137_ren := {
  mixed := by kernel_rfl
  f137 := Tryz.func64.trans (congrArg some (by kernel_rfl))
  f217 := Tryz.func79.trans (congrArg some (by kernel_rfl))
  f266 := Tryz.func88.trans (congrArg some (by kernel_rfl))
  t3 := Tryz.underlying3
  a3 := Tryz.isAgg3
  z3 := Tryz.sizeOf3
  v3 := Tryz.zeroValue3
  t5 := Tryz.underlying5
  a5 := Tryz.isAgg5
  z5 := Tryz.sizeOf5
  v5 := Tryz.zeroValue5
  t9 := Tryz.underlying9
  a9 := Tryz.isAgg9
  z9 := Tryz.sizeOf9
  v9 := Tryz.zeroValue9 }
open Go.RowKit in
/-- strings.IndexByte: "IndexByte returns the index of the first instance of c in s, or -1 if c is not present in s.": IT RETURNS 'Lib.indexByte s c'; the world is as it was. (LAID: no walk: one application.) -/
theorem Tryz.strings_IndexByte (s : ByteArray) (c : Int) (w : World) :
    Calls Tryz.prog 64 #[.string s, .int .u8 c] w fun e w' => e = .returned (.int .i64 (Lib.indexByte s.data.toList c.toNat.toUInt8)) ∧ w' = w := Any.strings_IndexByte Tryz.lays137 s c w
open Go.RowKit in
/-- (*strings.Builder).String: "String returns the accumulated string.": OF A BUILDER THAT HOLDS AT LEAST ONE BYTE. ✋ THE MODEL FREEZES THOSE BYTES IN THE BUFFER (unsafe.String): a later write INTO them ends the model's run without an answer; a later append BEHIND them goes on. The statement's order of evaluation is drawn: one draw. THE FORM '_f': IT SAYS BESIDES THAT THE BUILDER IS A BUILDER STILL ('Lib.IsBuilderF', the same bytes): SO IT CAN BE WRITTEN ON: 'b.WriteString(b.String()[:k])'. (LAID: no walk: one application.) -/
theorem Tryz.Builder_String_f (B b : Nat) (l : List UInt8) (w : World) (h : Lib.IsBuilderF 99 5 B b (Lib.byteCells l) w) (h0 : l ≠ []) :
    Calls Tryz.prog 68 #[.pointer (some ⟨b, 0, none⟩)] w fun e w' => e = .returned (.string ⟨l.toArray⟩) ∧ (Lib.IsBuilderF 99 5 B b (Lib.byteCells l) w' ∧ Below B w w') := Any.Builder_String_f Tryz.lays169 Tryz.Builder_Extra_169 B b l w h h0
open Go.RowKit in
/-- (*strings.Builder).String OF A BUILDER THAT HOLDS NO BYTE: the empty string; THE FORM '_f': a builder still. (LAID: no walk: one application.) -/
theorem Tryz.Builder_String_empty_f (B b : Nat) (w : World) (h : Lib.IsBuilderF 99 5 B b [] w) (hBw : B ≤ w.heap.size) :
    Calls Tryz.prog 68 #[.pointer (some ⟨b, 0, none⟩)] w fun e w' => e = .returned (.string ⟨#[]⟩) ∧ (Lib.IsBuilderF 99 5 B b [] w' ∧ Below B w w') := Any.Builder_String_empty_f Tryz.lays169 Tryz.Builder_Extra_169 B b w h hBw
open Go.RowKit in
/-- (*strings.Builder).String: "String returns the accumulated string.": WHATEVER THE BUILDER HOLDS; THE FORM '_f': OF A BUILDER THAT MAY HAVE BEEN READ BEFORE; AND IT IS A BUILDER STILL, holding the same bytes: it can be written on. (LAID: no walk: one application.) -/
theorem Tryz.Builder_String_any_f (B b : Nat) (l : List UInt8) (w : World) (h : Lib.IsBuilderF 99 5 B b (Lib.byteCells l) w) (hBw : B ≤ w.heap.size) :
    Calls Tryz.prog 68 #[.pointer (some ⟨b, 0, none⟩)] w fun e w' => e = .returned (.string ⟨l.toArray⟩) ∧ (Lib.IsBuilderF 99 5 B b (Lib.byteCells l) w' ∧ Below B w w') := Any.Builder_String_any_f Tryz.lays169 Tryz.Builder_Extra_169 B b l w h hBw
open Go.RowKit in
/-- (*strings.Builder).String: "String returns the accumulated string.": OF A BUILDER THAT HOLDS AT LEAST ONE BYTE. ✋ THE MODEL FREEZES THOSE BYTES IN THE BUFFER (unsafe.String): a later write INTO them ends the model's run without an answer; a later append BEHIND them goes on. The statement's order of evaluation is drawn: one draw. THE FORM '_k': OVER 'Lib.IsBuilderF' (a builder that 'String()' may have read), AND WITH THE FRAME THAT REACHES ABOVE THE BUILDER: 'Lib.OthersKept': every block that is not b and is no row of uint8's stands as it stood: the iterator of a range among them. (LAID: no walk: one application.) -/
theorem Tryz.Builder_String_k (B b : Nat) (l : List UInt8) (w : World) (h : Lib.IsBuilderF 99 5 B b (Lib.byteCells l) w) (h0 : l ≠ []) :
    Calls Tryz.prog 68 #[.pointer (some ⟨b, 0, none⟩)] w fun e w' => e = .returned (.string ⟨l.toArray⟩) ∧ (Lib.IsBuilderF 99 5 B b (Lib.byteCells l) w' ∧ Below B w w' ∧ Lib.OthersKept 5 (some b) w w') := Any.Builder_String_k Tryz.lays169 Tryz.Builder_Extra_169 B b l w h h0
open Go.RowKit in
/-- (*strings.Builder).String OF A BUILDER THAT HOLDS NO BYTE: the empty string; THE FORM '_k': OVER 'Lib.IsBuilderF' (a builder that 'String()' may have read), AND WITH THE FRAME THAT REACHES ABOVE THE BUILDER: 'Lib.OthersKept': every block that is not b and is no row of uint8's stands as it stood: the iterator of a range among them. (LAID: no walk: one application.) -/
theorem Tryz.Builder_String_empty_k (B b : Nat) (w : World) (h : Lib.IsBuilderF 99 5 B b [] w) (hBw : B ≤ w.heap.size) :
    Calls Tryz.prog 68 #[.pointer (some ⟨b, 0, none⟩)] w fun e w' => e = .returned (.string ⟨#[]⟩) ∧ (Lib.IsBuilderF 99 5 B b [] w' ∧ Below B w w' ∧ Lib.OthersKept 5 (some b) w w') := Any.Builder_String_empty_k Tryz.lays169 Tryz.Builder_Extra_169 B b w h hBw
open Go.RowKit in
/-- (*strings.Builder).String: "String returns the accumulated string.": WHATEVER THE BUILDER HOLDS; THE FORM '_k': OVER 'Lib.IsBuilderF' (a builder that 'String()' may have read), AND WITH THE FRAME THAT REACHES ABOVE THE BUILDER: 'Lib.OthersKept': every block that is not b and is no row of uint8's stands as it stood: the iterator of a range among them. (LAID: no walk: one application.) -/
theorem Tryz.Builder_String_any_k (B b : Nat) (l : List UInt8) (w : World) (h : Lib.IsBuilderF 99 5 B b (Lib.byteCells l) w) (hBw : B ≤ w.heap.size) :
    Calls Tryz.prog 68 #[.pointer (some ⟨b, 0, none⟩)] w fun e w' => e = .returned (.string ⟨l.toArray⟩) ∧ (Lib.IsBuilderF 99 5 B b (Lib.byteCells l) w' ∧ Below B w w' ∧ Lib.OthersKept 5 (some b) w w') := Any.Builder_String_any_k Tryz.lays169 Tryz.Builder_Extra_169 B b l w h hBw
def Tryz.lays217_ren : Go.Shelf.Ren := ⟨fun | 217 => 79 | 266 => 88 | n => n, fun | 9 => 9 | 5 => 5 | 3 => 3 | n => n, fun | n => n⟩
theorem Tryz.lays217 : Go.Proofs.Lays.n217 Tryz.prog Tryz.lays217_ren := {
  mixed := by kernel_rfl
  f217 := Tryz.func79.trans (congrArg some (by kernel_rfl))
  f266 := Tryz.func88.trans (congrArg some (by kernel_rfl))
  t3 := Tryz.underlying3
  a3 := Tryz.isAgg3
  z3 := Tryz.sizeOf3
  v3 := Tryz.zeroValue3
  t5 := Tryz.underlying5
  a5 := Tryz.isAgg5
  z5 := Tryz.sizeOf5
  v5 := Tryz.zeroValue5
  t9 := Tryz.underlying9
  a9 := Tryz.isAgg9
  z9 := Tryz.sizeOf9
  v9 := Tryz.zeroValue9 }
open Go.RowKit Go.Lib in
/-- internal/stringslite.IndexByte (what strings.IndexByte calls): IT RETURNS 'Lib.indexByte s c'; the world is as it was. (LAID: no walk: one application.) -/
theorem Tryz.stringslite_IndexByte (s : ByteArray) (c : Int) (w : World) :
    Calls Tryz.prog 79 #[.string s, .int .u8 c] w fun e w' => e = .returned (.int .i64 (Lib.indexByte s.data.toList c.toNat.toUInt8)) ∧ w' = w := Any.stringslite_IndexByte Tryz.lays217 s c w
def Tryz.lays224_ren : Go.Shelf.Ren := ⟨fun | 224 => 104 | n => n, fun | 3 => 3 | n => n, fun | n => n⟩
theorem Tryz.lays224 : Go.Proofs.Lays.n224 Tryz.prog Tryz.lays224_ren := {
  mixed := by kernel_rfl
  f224 := Tryz.func104.trans (congrArg some (by kernel_rfl))
  t3 := Tryz.underlying3
  a3 := Tryz.isAgg3
  z3 := Tryz.sizeOf3
  v3 := Tryz.zeroValue3 }
open Go.RowKit Go.Lib in
/-- internal/bytealg.Cutover: "Cutover reports the number of failures of IndexByte we should tolerate before switching over to Index. n is the number of bytes processed so far.": on amd64: (n + 16) / 8. (LAID: no walk: one application.) -/
theorem Tryz.bytealg_Cutover (n : Int) (h0 : 0 ≤ n) (h1 : n < 4611686018427387904) (w : World) :
    Calls Tryz.prog 104 #[.int .i64 n] w fun e w' => e = .returned (.int .i64 ((n + 16) / 8)) ∧ w' = w := Any.bytealg_Cutover Tryz.lays224 n h0 h1 w
def Tryz.lays314_ren : Go.Shelf.Ren := ⟨fun | 314 => 107 | n => n, fun | 9 => 9 | 51 => 115 | 3 => 3 | 4 => 4 | 5 => 5 | 46 => 108 | n => n, fun | n => n⟩
theorem Tryz.lays314 : Go.Proofs.Lays.n314 Tryz.prog Tryz.lays314_ren := {
  mixed := by kernel_rfl
  f314 := Tryz.func107.trans (congrArg some (by kernel_rfl))
  t3 := Tryz.underlying3
  a3 := Tryz.isAgg3
  z3 := Tryz.sizeOf3
  v3 := Tryz.zeroValue3
  t4 := Tryz.underlying4
  a4 := Tryz.isAgg4
  z4 := Tryz.sizeOf4
  v4 := Tryz.zeroValue4
  t5 := Tryz.underlying5
  a5 := Tryz.isAgg5
  z5 := Tryz.sizeOf5
  v5 := Tryz.zeroValue5
  t9 := Tryz.underlying9
  a9 := Tryz.isAgg9
  z9 := Tryz.sizeOf9
  v9 := Tryz.zeroValue9
  t46 := Tryz.underlying108
  a46 := Tryz.isAgg108
  z46 := Tryz.sizeOf108
  v46 := Tryz.zeroValue108
  t51 := Tryz.underlying115
  a51 := Tryz.isAgg115
  z51 := Tryz.sizeOf115
  v51 := Tryz.zeroValue115 }
open Go.RowKit Go.Lib in
/-- hashStr: "returns the hash and the appropriate multiplicative factor for use in Rabin-Karp algorithm": THE HASH OF ALL OF sep, AND 16777619 ^ len(sep), both in uint32. (LAID: no walk: one application.) -/
theorem Tryz.bytealg_hashStr (sep : ByteArray) (hs : sep.size < 4294967281) (w : World) :
    Calls Tryz.prog 107 #[.string sep] w fun e w' => e = .returned (.tuple #[.int .u32 (RK.H sep.data.toList % 4294967296), .int .u32 (16777619 ^ sep.size % 4294967296)]) ∧ w' = w := Any.bytealg_hashStr Tryz.lays314 sep hs w
def Tryz.lays267_ren : Go.Shelf.Ren := ⟨fun | 267 => 105 | 314 => 107 | n => n, fun | 9 => 9 | 3 => 3 | 146 => 139 | 51 => 115 | 4 => 4 | 5 => 5 | 46 => 108 | n => n, fun | n => n⟩
theorem Tryz.lays267 : Go.Proofs.Lays.n267 Tryz.prog Tryz.lays267_ren := {
  mixed := by kernel_rfl
  f267 := Tryz.func105.trans (congrArg some (by kernel_rfl))
  f314 := Tryz.func107.trans (congrArg some (by kernel_rfl))
  t3 := Tryz.underlying3
  a3 := Tryz.isAgg3
  z3 := Tryz.sizeOf3
  v3 := Tryz.zeroValue3
  t4 := Tryz.underlying4
  a4 := Tryz.isAgg4
  z4 := Tryz.sizeOf4
  v4 := Tryz.zeroValue4
  t5 := Tryz.underlying5
  a5 := Tryz.isAgg5
  z5 := Tryz.sizeOf5
  v5 := Tryz.zeroValue5
  t9 := Tryz.underlying9
  a9 := Tryz.isAgg9
  z9 := Tryz.sizeOf9
  v9 := Tryz.zeroValue9
  t46 := Tryz.underlying108
  a46 := Tryz.isAgg108
  z46 := Tryz.sizeOf108
  v46 := Tryz.zeroValue108
  t51 := Tryz.underlying115
  a51 := Tryz.isAgg115
  z51 := Tryz.sizeOf115
  v51 := Tryz.zeroValue115
  t146 := Tryz.underlying139
  a146 := Tryz.isAgg139
  z146 := Tryz.sizeOf139
  v146 := Tryz.zeroValue139 }
open Go.RowKit Go.Lib in
theorem Tryz.bytealg_IndexRabinKarp (s sep : ByteArray) (h1 : 1 ≤ sep.size) (h2 : sep.size ≤ s.size) (hs : s.size < 4294967281) (w : World) :
    Calls Tryz.prog 105 #[.string s, .string sep] w fun e w' => e = .returned (.int .i64 (Lib.index s.data.toList sep.data.toList)) ∧ w' = w := Any.bytealg_IndexRabinKarp Tryz.lays267 s sep h1 h2 hs w
def Tryz.lays219_ren : Go.Shelf.Ren := ⟨fun | 219 => 99 | 217 => 79 | 225 => 103 | 224 => 104 | 267 => 105 | 266 => 88 | 314 => 107 | n => n, fun | 9 => 9 | 3 => 3 | 4 => 4 | 5 => 5 | 46 => 108 | 146 => 139 | 51 => 115 | n => n, fun | 1 => 1 | n => n⟩
theorem Tryz.lays219 : Go.Proofs.Lays.n219 Tryz.prog Tryz.lays219_ren := {
  mixed := by kernel_rfl
  f217 := Tryz.func79.trans (congrArg some (by kernel_rfl))
  f219 := Tryz.func99.trans (congrArg some (by kernel_rfl))
  f224 := Tryz.func104.trans (congrArg some (by kernel_rfl))
  f225 := Tryz.func103.trans (congrArg some (by kernel_rfl))
  f266 := Tryz.func88.trans (congrArg some (by kernel_rfl))
  f267 := Tryz.func105.trans (congrArg some (by kernel_rfl))
  f314 := Tryz.func107.trans (congrArg some (by kernel_rfl))
  t3 := Tryz.underlying3
  a3 := Tryz.isAgg3
  z3 := Tryz.sizeOf3
  v3 := Tryz.zeroValue3
  t4 := Tryz.underlying4
  a4 := Tryz.isAgg4
  z4 := Tryz.sizeOf4
  v4 := Tryz.zeroValue4
  t5 := Tryz.underlying5
  a5 := Tryz.isAgg5
  z5 := Tryz.sizeOf5
  v5 := Tryz.zeroValue5
  t9 := Tryz.underlying9
  a9 := Tryz.isAgg9
  z9 := Tryz.sizeOf9
  v9 := Tryz.zeroValue9
  t46 := Tryz.underlying108
  a46 := Tryz.isAgg108
  z46 := Tryz.sizeOf108
  v46 := Tryz.zeroValue108
  t51 := Tryz.underlying115
  a51 := Tryz.isAgg115
  z51 := Tryz.sizeOf115
  v51 := Tryz.zeroValue115
  t146 := Tryz.underlying139
  a146 := Tryz.isAgg139
  z146 := Tryz.sizeOf139
  v146 := Tryz.zeroValue139
  g1 := by kernel_rfl }
open Go.RowKit Go.Lib in
/-- internal/stringslite.Index (what strings.Index calls) AT A substr OF ONE BYTE c: IT RETURNS 'Lib.indexByte s c'; the world is as it was. (LAID: no walk: one application.) -/
theorem Tryz.stringslite_Index_one (s : ByteArray) (c : UInt8) (w : World) :
    Calls Tryz.prog 99 #[.string s, .string ⟨#[c]⟩] w fun e w' => e = .returned (.int .i64 (Lib.indexByte s.data.toList c)) ∧ w' = w := Any.stringslite_Index_one Tryz.lays219 s c w
open Go.RowKit Go.Lib in
/-- internal/stringslite.Index (what strings.Index calls) AT A substr OF WHATEVER LENGTH: IT RETURNS 'Lib.index s substr'; the world is as it was. 'm': what internal/bytealg.MaxLen holds: whatever. (LAID: no walk: one application.) -/
theorem Tryz.stringslite_Index (s sub : ByteArray) (m : Int) (w : World) (hs : s.size < 4294967281) (hm : w.cell? ⟨1, 0, none⟩ = some (.int .i64 m)) :
    Calls Tryz.prog 99 #[.string s, .string sub] w fun e w' => e = .returned (.int .i64 (Lib.index s.data.toList sub.data.toList)) ∧ w' = w := Any.stringslite_Index Tryz.lays219 s sub m w hs hm
def Tryz.lays143_ren : Go.Shelf.Ren := ⟨fun | 143 => 92 | 219 => 99 | 217 => 79 | 225 => 103 | 224 => 104 | 267 => 105 | 266 => 88 | 314 => 107 | n => n, fun | 9 => 9 | 3 => 3 | 4 => 4 | 5 => 5 | 46 => 108 | 146 => 139 | 51 => 115 | n => n, fun | 1 => 1 | n => n⟩
theorem Tryz.lays143 : Go.Proofs.Lays.n143 Tryz.prog Tryz.lays143_ren := {
  mixed := by kernel_rfl
  f143 := Tryz.func92.trans (congrArg some (by kernel_rfl))
  f217 := Tryz.func79.trans (congrArg some (by kernel_rfl))
  f219 := Tryz.func99.trans (congrArg some (by kernel_rfl))
  f224 := Tryz.func104.trans (congrArg some (by kernel_rfl))
  f225 := Tryz.func103.trans (congrArg some (by kernel_rfl))
  f266 := Tryz.func88.trans (congrArg some (by kernel_rfl))
  f267 := Tryz.func105.trans (congrArg some (by kernel_rfl))
  f314 := Tryz.func107.trans (congrArg some (by kernel_rfl))
  t3 := Tryz.underlying3
  a3 := Tryz.isAgg3
  z3 := Tryz.sizeOf3
  v3 := Tryz.zeroValue3
  t4 := Tryz.underlying4
  a4 := Tryz.isAgg4
  z4 := Tryz.sizeOf4
  v4 := Tryz.zeroValue4
  t5 := Tryz.underlying5
  a5 := Tryz.isAgg5
  z5 := Tryz.sizeOf5
  v5 := Tryz.zeroValue5
  t9 := Tryz.underlying9
  a9 := Tryz.isAgg9
  z9 := Tryz.sizeOf9
  v9 := Tryz.zeroValue9
  t46 := Tryz.underlying108
  a46 := Tryz.isAgg108
  z46 := Tryz.sizeOf108
  v46 := Tryz.zeroValue108
  t51 := Tryz.underlying115
  a51 := Tryz.isAgg115
  z51 := Tryz.sizeOf115
  v51 := Tryz.zeroValue115
  t146 := Tryz.underlying139
  a146 := Tryz.isAgg139
  z146 := Tryz.sizeOf139
  v146 := Tryz.zeroValue139
  g1 := by kernel_rfl }
open Go.RowKit Go.Lib in
/-- strings.Index: "Index returns the index of the first instance of substr in s, or -1 if substr is not present in s.": AT A substr OF ONE BYTE c: IT RETURNS 'Lib.indexByte s c'; the world is as it was. (LAID: no walk: one application.) -/
theorem Tryz.strings_Index_one (s : ByteArray) (c : UInt8) (w : World) :
    Calls Tryz.prog 92 #[.string s, .string ⟨#[c]⟩] w fun e w' => e = .returned (.int .i64 (Lib.indexByte s.data.toList c)) ∧ w' = w := Any.strings_Index_one Tryz.lays143 s c w
open Go.RowKit Go.Lib in
/-- strings.Index: "Index returns the index of the first instance of substr in s, or -1 if substr is not present in s.": IT RETURNS 'Lib.index s substr'; the world is as it was. (LAID: no walk: one application.) -/
theorem Tryz.strings_Index (s sub : ByteArray) (m : Int) (w : World) (hs : s.size < 4294967281) (hm : w.cell? ⟨1, 0, none⟩ = some (.int .i64 m)) :
    Calls Tryz.prog 92 #[.string s, .string sub] w fun e w' => e = .returned (.int .i64 (Lib.index s.data.toList sub.data.toList)) ∧ w' = w := Any.strings_Index Tryz.lays143 s sub m w hs hm
def Tryz.lays138_ren : Go.Shelf.Ren := ⟨fun | 138 => 91 | 195 => 96 | 218 => 98 | 143 => 92 | 219 => 99 | 217 => 79 | 225 => 103 | 224 => 104 | 267 => 105 | 266 => 88 | 314 => 107 | n => n, fun | 9 => 9 | 3 => 3 | 4 => 4 | 5 => 5 | 0 => 0 | 46 => 108 | 146 => 139 | 51 => 115 | n => n, fun | 1 => 1 | n => n⟩
theorem Tryz.lays138 : Go.Proofs.Lays.n138 Tryz.prog Tryz.lays138_ren := {
  mixed := by kernel_rfl
  f138 := Tryz.func91.trans (congrArg some (by kernel_rfl))
  f143 := Tryz.func92.trans (congrArg some (by kernel_rfl))
  f195 := Tryz.func96.trans (congrArg some (by kernel_rfl))
  f217 := Tryz.func79.trans (congrArg some (by kernel_rfl))
  f218 := Tryz.func98.trans (congrArg some (by kernel_rfl))
  f219 := Tryz.func99.trans (congrArg some (by kernel_rfl))
  f224 := Tryz.func104.trans (congrArg some (by kernel_rfl))
  f225 := Tryz.func103.trans (congrArg some (by kernel_rfl))
  f266 := Tryz.func88.trans (congrArg some (by kernel_rfl))
  f267 := Tryz.func105.trans (congrArg some (by kernel_rfl))
  f314 := Tryz.func107.trans (congrArg some (by kernel_rfl))
  t0 := Tryz.underlying0
  a0 := Tryz.isAgg0
  z0 := Tryz.sizeOf0
  v0 := Tryz.zeroValue0
  t3 := Tryz.underlying3
  a3 := Tryz.isAgg3
  z3 := Tryz.sizeOf3
  v3 := Tryz.zeroValue3
  t4 := Tryz.underlying4
  a4 := Tryz.isAgg4
  z4 := Tryz.sizeOf4
  v4 := Tryz.zeroValue4
  t5 := Tryz.underlying5
  a5 := Tryz.isAgg5
  z5 := Tryz.sizeOf5
  v5 := Tryz.zeroValue5
  t9 := Tryz.underlying9
  a9 := Tryz.isAgg9
  z9 := Tryz.sizeOf9
  v9 := Tryz.zeroValue9
  t46 := Tryz.underlying108
  a46 := Tryz.isAgg108
  z46 := Tryz.sizeOf108
  v46 := Tryz.zeroValue108
  t51 := Tryz.underlying115
  a51 := Tryz.isAgg115
  z51 := Tryz.sizeOf115
  v51 := Tryz.zeroValue115
  t146 := Tryz.underlying139
  a146 := Tryz.isAgg139
  z146 := Tryz.sizeOf139
  v146 := Tryz.zeroValue139
  g1 := by kernel_rfl }
open Go.RowKit Go.Lib in
/-- strings.Count AT A substr OF ONE BYTE ('hp'): "Count counts the number of non-overlapping instances of substr in s.": IT RETURNS 'Lib.countByte s (that byte)'; the world is as it was. ✋ NO CONTRACT HERE YET at an empty substr (utf8.RuneCountInString) or at a longer one (a loop over strings.Index). (LAID: no walk: one application.) -/
theorem Tryz.strings_Count_one (s : ByteArray) (c : UInt8) (w : World) :
    Calls Tryz.prog 91 #[.string s, .string ⟨#[c]⟩] w fun e w' => e = .returned (.int .i64 (Lib.countByte s.data.toList c)) ∧ w' = w := Any.strings_Count_one Tryz.lays138 s c w
open Go.RowKit Go.Lib in
/-- strings.Count AT A substr OF TWO BYTES OR MORE: "Count counts the number of non-overlapping instances of substr in s.": IT RETURNS 'Lib.count s substr'; the world is as it was. (LAID: no walk: one application.) -/
theorem Tryz.strings_Count (s sub : ByteArray) (m : Int) (w : World) (hs : s.size < 4294967281) (hm : w.cell? ⟨1, 0, none⟩ = some (.int .i64 m)) (h2 : 2 ≤ sub.size) :
    Calls Tryz.prog 91 #[.string s, .string sub] w fun e w' => e = .returned (.int .i64 (Lib.countB s sub)) ∧ w' = w := Any.strings_Count Tryz.lays138 s sub m w hs hm h2
def Tryz.laysM219_ren : Go.Shelf.Ren := ⟨fun | 219 => 99 | 217 => 79 | 225 => 103 | 224 => 104 | 267 => 105 | 266 => 88 | 314 => 107 | n => n, fun | 9 => 9 | 3 => 3 | 4 => 4 | 5 => 5 | 46 => 108 | 146 => 139 | 51 => 115 | n => n, fun | 1 => 1 | n => n⟩
theorem Tryz.laysM219 : Go.Proofs.LaysM.n219 Tryz.prog Tryz.laysM219_ren := {
  mixed := by kernel_rfl
  f217 := Tryz.func79.trans (congrArg some (by kernel_rfl))
  f219 := Tryz.func99.trans (congrArg some (by kernel_rfl))
  f224 := Tryz.func104.trans (congrArg some (by kernel_rfl))
  f225 := Tryz.func103.trans (congrArg some (by kernel_rfl))
  f266 := Tryz.func88.trans (congrArg some (by kernel_rfl))
  f267 := Tryz.func105.trans (congrArg some (by kernel_rfl))
  f314 := Tryz.func107.trans (congrArg some (by kernel_rfl))
  t3 := Tryz.underlying3
  a3 := Tryz.isAgg3
  z3 := Tryz.sizeOf3
  v3 := Tryz.zeroValue3
  t4 := Tryz.underlying4
  a4 := Tryz.isAgg4
  z4 := Tryz.sizeOf4
  v4 := Tryz.zeroValue4
  t5 := Tryz.underlying5
  a5 := Tryz.isAgg5
  z5 := Tryz.sizeOf5
  v5 := Tryz.zeroValue5
  t9 := Tryz.underlying9
  a9 := Tryz.isAgg9
  z9 := Tryz.sizeOf9
  v9 := Tryz.zeroValue9
  t46 := Tryz.underlying108
  a46 := Tryz.isAgg108
  z46 := Tryz.sizeOf108
  v46 := Tryz.zeroValue108
  t51 := Tryz.underlying115
  a51 := Tryz.isAgg115
  z51 := Tryz.sizeOf115
  v51 := Tryz.zeroValue115
  t146 := Tryz.underlying139
  a146 := Tryz.isAgg139
  z146 := Tryz.sizeOf139
  v146 := Tryz.zeroValue139
  g1 := by kernel_rfl
  i3 := by kernel_rfl
  i4 := by kernel_rfl
  i5 := by kernel_rfl
  i9 := by kernel_rfl
  i46 := by kernel_rfl
  i51 := by kernel_rfl
  i146 := by kernel_rfl
  m1 := by kernel_rfl
  s1_3 := fun w h => Go.Proofs.cell_of_shapedOpen_int (zero := #[.int .i64 0]) (t := 3) h (of_decide_eq_true (by kernel_rfl)) (by kernel_rfl) rfl (by kernel_rfl) (by kernel_rfl) Tryz.underlying3 }
open Go.RowKit Go.Lib in
theorem Tryz.stringslite_Index_shaped (s sub : ByteArray) (w : World) (h : w.ShapedOpen Tryz.prog) (hs : s.size < 4294967281) :
    Calls Tryz.prog 99 #[.string s, .string sub] w fun e w' => e = .returned (.int .i64 (Lib.index s.data.toList sub.data.toList)) ∧ w' = w := Any.stringslite_Index_shaped Tryz.laysM219 s sub w h hs
def Tryz.laysM143_ren : Go.Shelf.Ren := ⟨fun | 143 => 92 | 219 => 99 | 217 => 79 | 225 => 103 | 224 => 104 | 267 => 105 | 266 => 88 | 314 => 107 | n => n, fun | 9 => 9 | 3 => 3 | 4 => 4 | 5 => 5 | 46 => 108 | 146 => 139 | 51 => 115 | n => n, fun | 1 => 1 | n => n⟩
theorem Tryz.laysM143 : Go.Proofs.LaysM.n143 Tryz.prog Tryz.laysM143_ren := {
  mixed := by kernel_rfl
  f143 := Tryz.func92.trans (congrArg some (by kernel_rfl))
  f217 := Tryz.func79.trans (congrArg some (by kernel_rfl))
  f219 := Tryz.func99.trans (congrArg some (by kernel_rfl))
  f224 := Tryz.func104.trans (congrArg some (by kernel_rfl))
  f225 := Tryz.func103.trans (congrArg some (by kernel_rfl))
  f266 := Tryz.func88.trans (congrArg some (by kernel_rfl))
  f267 := Tryz.func105.trans (congrArg some (by kernel_rfl))
  f314 := Tryz.func107.trans (congrArg some (by kernel_rfl))
  t3 := Tryz.underlying3
  a3 := Tryz.isAgg3
  z3 := Tryz.sizeOf3
  v3 := Tryz.zeroValue3
  t4 := Tryz.underlying4
  a4 := Tryz.isAgg4
  z4 := Tryz.sizeOf4
  v4 := Tryz.zeroValue4
  t5 := Tryz.underlying5
  a5 := Tryz.isAgg5
  z5 := Tryz.sizeOf5
  v5 := Tryz.zeroValue5
  t9 := Tryz.underlying9
  a9 := Tryz.isAgg9
  z9 := Tryz.sizeOf9
  v9 := Tryz.zeroValue9
  t46 := Tryz.underlying108
  a46 := Tryz.isAgg108
  z46 := Tryz.sizeOf108
  v46 := Tryz.zeroValue108
  t51 := Tryz.underlying115
  a51 := Tryz.isAgg115
  z51 := Tryz.sizeOf115
  v51 := Tryz.zeroValue115
  t146 := Tryz.underlying139
  a146 := Tryz.isAgg139
  z146 := Tryz.sizeOf139
  v146 := Tryz.zeroValue139
  g1 := by kernel_rfl
  i3 := by kernel_rfl
  i4 := by kernel_rfl
  i5 := by kernel_rfl
  i9 := by kernel_rfl
  i46 := by kernel_rfl
  i51 := by kernel_rfl
  i146 := by kernel_rfl
  m1 := by kernel_rfl
  s1_3 := fun w h => Go.Proofs.cell_of_shapedOpen_int (zero := #[.int .i64 0]) (t := 3) h (of_decide_eq_true (by kernel_rfl)) (by kernel_rfl) rfl (by kernel_rfl) (by kernel_rfl) Tryz.underlying3 }
open Go.RowKit Go.Lib in
theorem Tryz.strings_Index_shaped (s sub : ByteArray) (w : World) (h : w.ShapedOpen Tryz.prog) (hs : s.size < 4294967281) :
    Calls Tryz.prog 92 #[.string s, .string sub] w fun e w' => e = .returned (.int .i64 (Lib.index s.data.toList sub.data.toList)) ∧ w' = w := Any.strings_Index_shaped Tryz.laysM143 s sub w h hs
def Tryz.laysM138_ren : Go.Shelf.Ren := ⟨fun | 138 => 91 | 195 => 96 | 218 => 98 | 143 => 92 | 219 => 99 | 217 => 79 | 225 => 103 | 224 => 104 | 267 => 105 | 266 => 88 | 314 => 107 | n => n, fun | 9 => 9 | 3 => 3 | 4 => 4 | 5 => 5 | 0 => 0 | 46 => 108 | 146 => 139 | 51 => 115 | n => n, fun | 1 => 1 | n => n⟩
theorem Tryz.laysM138 : Go.Proofs.LaysM.n138 Tryz.prog Tryz.laysM138_ren := {
  mixed := by kernel_rfl
  f138 := Tryz.func91.trans (congrArg some (by kernel_rfl))
  f143 := Tryz.func92.trans (congrArg some (by kernel_rfl))
  f195 := Tryz.func96.trans (congrArg some (by kernel_rfl))
  f217 := Tryz.func79.trans (congrArg some (by kernel_rfl))
  f218 := Tryz.func98.trans (congrArg some (by kernel_rfl))
  f219 := Tryz.func99.trans (congrArg some (by kernel_rfl))
  f224 := Tryz.func104.trans (congrArg some (by kernel_rfl))
  f225 := Tryz.func103.trans (congrArg some (by kernel_rfl))
  f266 := Tryz.func88.trans (congrArg some (by kernel_rfl))
  f267 := Tryz.func105.trans (congrArg some (by kernel_rfl))
  f314 := Tryz.func107.trans (congrArg some (by kernel_rfl))
  t0 := Tryz.underlying0
  a0 := Tryz.isAgg0
  z0 := Tryz.sizeOf0
  v0 := Tryz.zeroValue0
  t3 := Tryz.underlying3
  a3 := Tryz.isAgg3
  z3 := Tryz.sizeOf3
  v3 := Tryz.zeroValue3
  t4 := Tryz.underlying4
  a4 := Tryz.isAgg4
  z4 := Tryz.sizeOf4
  v4 := Tryz.zeroValue4
  t5 := Tryz.underlying5
  a5 := Tryz.isAgg5
  z5 := Tryz.sizeOf5
  v5 := Tryz.zeroValue5
  t9 := Tryz.underlying9
  a9 := Tryz.isAgg9
  z9 := Tryz.sizeOf9
  v9 := Tryz.zeroValue9
  t46 := Tryz.underlying108
  a46 := Tryz.isAgg108
  z46 := Tryz.sizeOf108
  v46 := Tryz.zeroValue108
  t51 := Tryz.underlying115
  a51 := Tryz.isAgg115
  z51 := Tryz.sizeOf115
  v51 := Tryz.zeroValue115
  t146 := Tryz.underlying139
  a146 := Tryz.isAgg139
  z146 := Tryz.sizeOf139
  v146 := Tryz.zeroValue139
  g1 := by kernel_rfl
  i0 := by kernel_rfl
  i3 := by kernel_rfl
  i4 := by kernel_rfl
  i5 := by kernel_rfl
  i9 := by kernel_rfl
  i46 := by kernel_rfl
  i51 := by kernel_rfl
  i146 := by kernel_rfl
  m1 := by kernel_rfl
  s1_3 := fun w h => Go.Proofs.cell_of_shapedOpen_int (zero := #[.int .i64 0]) (t := 3) h (of_decide_eq_true (by kernel_rfl)) (by kernel_rfl) rfl (by kernel_rfl) (by kernel_rfl) Tryz.underlying3 }
open Go.RowKit Go.Lib in
theorem Tryz.strings_Count_shaped (s sub : ByteArray) (w : World) (h : w.ShapedOpen Tryz.prog) (hs : s.size < 4294967281) (h2 : 2 ≤ sub.size) :
    Calls Tryz.prog 91 #[.string s, .string sub] w fun e w' => e = .returned (.int .i64 (Lib.countB s sub)) ∧ w' = w := Any.strings_Count_shaped Tryz.laysM138 s sub w h hs h2
def Tryz.lays222_ren : Go.Shelf.Ren := ⟨fun | 222 => 55 | n => n, fun | 9 => 9 | 5 => 5 | 3 => 3 | 4 => 4 | n => n, fun | n => n⟩
theorem Tryz.lays222 : Go.Proofs.Lays.n222 Tryz.prog Tryz.lays222_ren := {
  mixed := by kernel_rfl
  f222 := Tryz.func55.trans (congrArg some (by kernel_rfl))
  t3 := Tryz.underlying3
  a3 := Tryz.isAgg3
  z3 := Tryz.sizeOf3
  v3 := Tryz.zeroValue3
  t4 := Tryz.underlying4
  a4 := Tryz.isAgg4
  z4 := Tryz.sizeOf4
  v4 := Tryz.zeroValue4
  t5 := Tryz.underlying5
  a5 := Tryz.isAgg5
  z5 := Tryz.sizeOf5
  v5 := Tryz.zeroValue5
  t9 := Tryz.underlying9
  a9 := Tryz.isAgg9
  z9 := Tryz.sizeOf9
  v9 := Tryz.zeroValue9 }
open Go.RowKit Go.Lib in
/-- internal/bytealg.LastIndexByteString: 'for i := len(s) - 1; i >= 0; i-- { if s[i] == c { return i } }; return -1'. (LAID: no walk: one application.) -/
theorem Tryz.bytealg_LastIndexByteString_nm (s : ByteArray) (c : Int) (hs : s.size < 4611686018427387904) (w : World) :
    Calls Tryz.prog 55 #[.string s, .int .u8 c] w fun e w' => e = .returned (.int .i64 (Lib.lastIndexByte s c)) ∧ w' = w := Any.bytealg_LastIndexByteString_nm Tryz.lays222 s c hs w
def Tryz.lays149_ren : Go.Shelf.Ren := ⟨fun | 149 => 34 | 222 => 55 | n => n, fun | 9 => 9 | 5 => 5 | 3 => 3 | 4 => 4 | n => n, fun | n => n⟩
theorem Tryz.lays149 : Go.Proofs.Lays.n149 Tryz.prog Tryz.lays149_ren := {
  mixed := by kernel_rfl
  f149 := Tryz.func34.trans (congrArg some (by kernel_rfl))
  f222 := Tryz.func55.trans (congrArg some (by kernel_rfl))
  t3 := Tryz.underlying3
  a3 := Tryz.isAgg3
  z3 := Tryz.sizeOf3
  v3 := Tryz.zeroValue3
  t4 := Tryz.underlying4
  a4 := Tryz.isAgg4
  z4 := Tryz.sizeOf4
  v4 := Tryz.zeroValue4
  t5 := Tryz.underlying5
  a5 := Tryz.isAgg5
  z5 := Tryz.sizeOf5
  v5 := Tryz.zeroValue5
  t9 := Tryz.underlying9
  a9 := Tryz.isAgg9
  z9 := Tryz.sizeOf9
  v9 := Tryz.zeroValue9 }
open Go.RowKit Go.Lib in
/-- strings.LastIndexByte: "LastIndexByte returns the index of the last instance of c in s, or -1 if c is not present in s." (LAID: no walk: one application.) -/
theorem Tryz.strings_LastIndexByte (s : ByteArray) (c : Int) (hs : s.size < 4611686018427387904) (w : World) :
    Calls Tryz.prog 34 #[.string s, .int .u8 c] w fun e w' => e = .returned (.int .i64 (Lib.lastIndexByte s c)) ∧ w' = w := Any.strings_LastIndexByte Tryz.lays149 s c hs w
open Go.RowKit Go.Lib in
/-- strings.Count at whatever sep that is not empty: the two roads under one statement. (LAID: no walk: one application.) -/
theorem Tryz.strings_Count_any (s sep : ByteArray) (m : Int) (w : World) (hs : s.size < 4294967281) (hm : w.cell? ⟨1, 0, none⟩ = some (.int .i64 m)) (h1 : 1 ≤ sep.size) :
    Calls Tryz.prog 91 #[.string s, .string sep] w fun e w' => e = .returned (.int .i64 (Lib.countB s sep)) ∧ w' = w := Any.strings_Count_any Tryz.lays138 s sep m w hs hm h1
def Tryz.lays221_ren : Go.Shelf.Ren := ⟨fun | 221 => 83 | 268 => 90 | 138 => 91 | 143 => 92 | 195 => 96 | 197 => 97 | 218 => 98 | 219 => 99 | 260 => 102 | 217 => 79 | 225 => 103 | 224 => 104 | 267 => 105 | 266 => 88 | 314 => 107 | n => n, fun | 9 => 9 | 3 => 3 | 31 => 84 | 4 => 4 | 0 => 0 | 105 => 130 | 21 => 21 | 5 => 5 | 46 => 108 | 119 => 135 | 139 => 138 | 138 => 137 | 146 => 139 | 51 => 115 | n => n, fun | 1 => 1 | 3 => 2 | 4 => 3 | n => n⟩
theorem Tryz.lays221 : Go.Proofs.Lays.n221 Tryz.prog Tryz.lays221_ren := {
  mixed := by kernel_rfl
  f138 := Tryz.func91.trans (congrArg some (by kernel_rfl))
  f143 := Tryz.func92.trans (congrArg some (by kernel_rfl))
  f195 := Tryz.func96.trans (congrArg some (by kernel_rfl))
  f197 := Tryz.func97.trans (congrArg some (by kernel_rfl))
  f217 := Tryz.func79.trans (congrArg some (by kernel_rfl))
  f218 := Tryz.func98.trans (congrArg some (by kernel_rfl))
  f219 := Tryz.func99.trans (congrArg some (by kernel_rfl))
  f221 := Tryz.func83.trans (congrArg some (by kernel_rfl))
  f224 := Tryz.func104.trans (congrArg some (by kernel_rfl))
  f225 := Tryz.func103.trans (congrArg some (by kernel_rfl))
  f260 := Tryz.func102.trans (congrArg some (by kernel_rfl))
  f266 := Tryz.func88.trans (congrArg some (by kernel_rfl))
  f267 := Tryz.func105.trans (congrArg some (by kernel_rfl))
  f268 := Tryz.func90.trans (congrArg some (by kernel_rfl))
  f314 := Tryz.func107.trans (congrArg some (by kernel_rfl))
  t0 := Tryz.underlying0
  a0 := Tryz.isAgg0
  z0 := Tryz.sizeOf0
  v0 := Tryz.zeroValue0
  t3 := Tryz.underlying3
  a3 := Tryz.isAgg3
  z3 := Tryz.sizeOf3
  v3 := Tryz.zeroValue3
  t4 := Tryz.underlying4
  a4 := Tryz.isAgg4
  z4 := Tryz.sizeOf4
  v4 := Tryz.zeroValue4
  t5 := Tryz.underlying5
  a5 := Tryz.isAgg5
  z5 := Tryz.sizeOf5
  v5 := Tryz.zeroValue5
  t9 := Tryz.underlying9
  a9 := Tryz.isAgg9
  z9 := Tryz.sizeOf9
  v9 := Tryz.zeroValue9
  t21 := Tryz.underlying21
  a21 := Tryz.isAgg21
  z21 := Tryz.sizeOf21
  v21 := Tryz.zeroValue21
  t31 := Tryz.underlying84
  a31 := Tryz.isAgg84
  z31 := Tryz.sizeOf84
  v31 := Tryz.zeroValue84
  t46 := Tryz.underlying108
  a46 := Tryz.isAgg108
  z46 := Tryz.sizeOf108
  v46 := Tryz.zeroValue108
  t51 := Tryz.underlying115
  a51 := Tryz.isAgg115
  z51 := Tryz.sizeOf115
  v51 := Tryz.zeroValue115
  t105 := Tryz.underlying130
  a105 := Tryz.isAgg130
  z105 := Tryz.sizeOf130
  v105 := Tryz.zeroValue130
  t119 := Tryz.underlying135
  a119 := Tryz.isAgg135
  z119 := Tryz.sizeOf135
  t138 := Tryz.underlying137
  a138 := Tryz.isAgg137
  z138 := Tryz.sizeOf137
  v138 := Tryz.zeroValue137
  t139 := Tryz.underlying138
  a139 := Tryz.isAgg138
  z139 := Tryz.sizeOf138
  v139 := Tryz.zeroValue138
  t146 := Tryz.underlying139
  a146 := Tryz.isAgg139
  z146 := Tryz.sizeOf139
  v146 := Tryz.zeroValue139
  g1 := by kernel_rfl
  g3 := by kernel_rfl
  g4 := by kernel_rfl }
open Go.RowKit Go.Lib in
theorem Tryz.strings_genSplit (s sep : ByteArray) (sv : Nat) (n : Int) (N : Nat) (m : Int) (w : World) (hs : s.size < 4294967281) (hm : w.cell? ⟨1, 0, none⟩ = some (.int .i64 m)) (h1 : 1 ≤ sep.size) (hsv : sv ≤ sep.size) (hn0 : n ≠ 0) (hn63 : n ≤ 9223372036854775807) (hN : (N : Int) = min (if n < 0 then (Lib.countB s sep : Int) + 1 else n) ((s.size : Int) + 1)) :
    Calls Tryz.prog 83 #[.string s, .string sep, .int .i64 sv, .int .i64 n] w fun e w' =>
      e = .returned (.slice (some ⟨w.heap.size, 0, none⟩) (Lib.splitB sep sv (N - 1) s).length N) ∧ w' = w.alloc (.cells (Lib.cellsOf (Lib.splitB sep sv (N - 1) s) N) 9) := Any.strings_genSplit Tryz.lays221 (by kernel_rfl) s sep sv n N m w hs hm h1 hsv hn0 hn63 hN
def Tryz.lays146_ren : Go.Shelf.Ren := ⟨fun | 146 => 73 | 221 => 83 | 268 => 90 | 138 => 91 | 143 => 92 | 195 => 96 | 197 => 97 | 218 => 98 | 219 => 99 | 260 => 102 | 217 => 79 | 225 => 103 | 224 => 104 | 267 => 105 | 266 => 88 | 314 => 107 | n => n, fun | 9 => 9 | 31 => 84 | 3 => 3 | 4 => 4 | 0 => 0 | 105 => 130 | 21 => 21 | 5 => 5 | 46 => 108 | 119 => 135 | 139 => 138 | 138 => 137 | 146 => 139 | 51 => 115 | n => n, fun | 1 => 1 | 3 => 2 | 4 => 3 | n => n⟩
theorem Tryz.lays146 : Go.Proofs.Lays.n146 Tryz.prog Tryz.lays146_ren := {
  mixed := by kernel_rfl
  f138 := Tryz.func91.trans (congrArg some (by kernel_rfl))
  f143 := Tryz.func92.trans (congrArg some (by kernel_rfl))
  f146 := Tryz.func73.trans (congrArg some (by kernel_rfl))
  f195 := Tryz.func96.trans (congrArg some (by kernel_rfl))
  f197 := Tryz.func97.trans (congrArg some (by kernel_rfl))
  f217 := Tryz.func79.trans (congrArg some (by kernel_rfl))
  f218 := Tryz.func98.trans (congrArg some (by kernel_rfl))
  f219 := Tryz.func99.trans (congrArg some (by kernel_rfl))
  f221 := Tryz.func83.trans (congrArg some (by kernel_rfl))
  f224 := Tryz.func104.trans (congrArg some (by kernel_rfl))
  f225 := Tryz.func103.trans (congrArg some (by kernel_rfl))
  f260 := Tryz.func102.trans (congrArg some (by kernel_rfl))
  f266 := Tryz.func88.trans (congrArg some (by kernel_rfl))
  f267 := Tryz.func105.trans (congrArg some (by kernel_rfl))
  f268 := Tryz.func90.trans (congrArg some (by kernel_rfl))
  f314 := Tryz.func107.trans (congrArg some (by kernel_rfl))
  t0 := Tryz.underlying0
  a0 := Tryz.isAgg0
  z0 := Tryz.sizeOf0
  v0 := Tryz.zeroValue0
  t3 := Tryz.underlying3
  a3 := Tryz.isAgg3
  z3 := Tryz.sizeOf3
  v3 := Tryz.zeroValue3
  t4 := Tryz.underlying4
  a4 := Tryz.isAgg4
  z4 := Tryz.sizeOf4
  v4 := Tryz.zeroValue4
  t5 := Tryz.underlying5
  a5 := Tryz.isAgg5
  z5 := Tryz.sizeOf5
  v5 := Tryz.zeroValue5
  t9 := Tryz.underlying9
  a9 := Tryz.isAgg9
  z9 := Tryz.sizeOf9
  v9 := Tryz.zeroValue9
  t21 := Tryz.underlying21
  a21 := Tryz.isAgg21
  z21 := Tryz.sizeOf21
  v21 := Tryz.zeroValue21
  t31 := Tryz.underlying84
  a31 := Tryz.isAgg84
  z31 := Tryz.sizeOf84
  v31 := Tryz.zeroValue84
  t46 := Tryz.underlying108
  a46 := Tryz.isAgg108
  z46 := Tryz.sizeOf108
  v46 := Tryz.zeroValue108
  t51 := Tryz.underlying115
  a51 := Tryz.isAgg115
  z51 := Tryz.sizeOf115
  v51 := Tryz.zeroValue115
  t105 := Tryz.underlying130
  a105 := Tryz.isAgg130
  z105 := Tryz.sizeOf130
  v105 := Tryz.zeroValue130
  t119 := Tryz.underlying135
  a119 := Tryz.isAgg135
  z119 := Tryz.sizeOf135
  t138 := Tryz.underlying137
  a138 := Tryz.isAgg137
  z138 := Tryz.sizeOf137
  v138 := Tryz.zeroValue137
  t139 := Tryz.underlying138
  a139 := Tryz.isAgg138
  z139 := Tryz.sizeOf138
  v139 := Tryz.zeroValue138
  t146 := Tryz.underlying139
  a146 := Tryz.isAgg139
  z146 := Tryz.sizeOf139
  v146 := Tryz.zeroValue139
  g1 := by kernel_rfl
  g3 := by kernel_rfl
  g4 := by kernel_rfl }
open Go.RowKit Go.Lib in
/-- strings.Split. (LAID: no walk: one application.) -/
theorem Tryz.strings_Split (s sep : ByteArray) (m : Int) (w : World) (hs : s.size < 4294967281) (hm : w.cell? ⟨1, 0, none⟩ = some (.int .i64 m)) (h1 : 1 ≤ sep.size) :
    Calls Tryz.prog 73 #[.string s, .string sep] w fun e w' =>
      e = .returned (.slice (some ⟨w.heap.size, 0, none⟩) (Lib.countB s sep + 1) (Lib.countB s sep + 1)) ∧ w' = w.alloc (.cells ((Lib.splitB sep 0 (Lib.countB s sep) s).map Value.string).toArray 9) := Any.strings_Split Tryz.lays146 (by kernel_rfl) s sep m w hs hm h1
def Tryz.lays152_ren : Go.Shelf.Ren := ⟨fun | 152 => 101 | 137 => 64 | 119 => 106 | 224 => 104 | 225 => 103 | 217 => 79 | 266 => 88 | n => n, fun | 9 => 9 | 21 => 21 | 3 => 3 | 4 => 4 | 5 => 5 | 0 => 0 | 46 => 108 | n => n, fun | n => n⟩
theorem Tryz.lays152 : Go.Proofs.Lays.n152 Tryz.prog Tryz.lays152_ren := {
  mixed := by kernel_rfl
  f119 := Tryz.func106.trans (congrArg some (by kernel_rfl))
  f137 := Tryz.func64.trans (congrArg some (by kernel_rfl))
  f152 := Tryz.func101.trans (congrArg some (by kernel_rfl))
  f217 := Tryz.func79.trans (congrArg some (by kernel_rfl))
  f224 := Tryz.func104.trans (congrArg some (by kernel_rfl))
  f225 := Tryz.func103.trans (congrArg some (by kernel_rfl))
  f266 := Tryz.func88.trans (congrArg some (by kernel_rfl))
  t0 := Tryz.underlying0
  a0 := Tryz.isAgg0
  z0 := Tryz.sizeOf0
  v0 := Tryz.zeroValue0
  t3 := Tryz.underlying3
  a3 := Tryz.isAgg3
  z3 := Tryz.sizeOf3
  v3 := Tryz.zeroValue3
  t4 := Tryz.underlying4
  a4 := Tryz.isAgg4
  z4 := Tryz.sizeOf4
  v4 := Tryz.zeroValue4
  t5 := Tryz.underlying5
  a5 := Tryz.isAgg5
  z5 := Tryz.sizeOf5
  v5 := Tryz.zeroValue5
  t9 := Tryz.underlying9
  a9 := Tryz.isAgg9
  z9 := Tryz.sizeOf9
  v9 := Tryz.zeroValue9
  t21 := Tryz.underlying21
  a21 := Tryz.isAgg21
  z21 := Tryz.sizeOf21
  v21 := Tryz.zeroValue21
  t46 := Tryz.underlying108
  a46 := Tryz.isAgg108
  z46 := Tryz.sizeOf108
  v46 := Tryz.zeroValue108 }
open Go.RowKit Go.Lib in
theorem Tryz.strings_IndexRune_ascii (s : ByteArray) (r : Int) (w : World) (h0 : 0 ≤ r) (h1 : r < 128) :
    Calls Tryz.prog 101 #[.string s, .int .i32 r] w fun e w' => e = .returned (.int .i64 (Lib.indexByte s.data.toList r.toNat.toUInt8)) ∧ w' = w := Any.strings_IndexRune_ascii Tryz.lays152 s r w h0 h1
def Tryz.lays151_ren : Go.Shelf.Ren := ⟨fun | 151 => 95 | 152 => 101 | 137 => 64 | 119 => 106 | 224 => 104 | 225 => 103 | 217 => 79 | 266 => 88 | n => n, fun | 9 => 9 | 21 => 21 | 4 => 4 | 3 => 3 | 5 => 5 | 0 => 0 | 46 => 108 | n => n, fun | n => n⟩
theorem Tryz.lays151 : Go.Proofs.Lays.n151 Tryz.prog Tryz.lays151_ren := {
  mixed := by kernel_rfl
  f119 := Tryz.func106.trans (congrArg some (by kernel_rfl))
  f137 := Tryz.func64.trans (congrArg some (by kernel_rfl))
  f151 := Tryz.func95.trans (congrArg some (by kernel_rfl))
  f152 := Tryz.func101.trans (congrArg some (by kernel_rfl))
  f217 := Tryz.func79.trans (congrArg some (by kernel_rfl))
  f224 := Tryz.func104.trans (congrArg some (by kernel_rfl))
  f225 := Tryz.func103.trans (congrArg some (by kernel_rfl))
  f266 := Tryz.func88.trans (congrArg some (by kernel_rfl))
  t0 := Tryz.underlying0
  a0 := Tryz.isAgg0
  z0 := Tryz.sizeOf0
  v0 := Tryz.zeroValue0
  t3 := Tryz.underlying3
  a3 := Tryz.isAgg3
  z3 := Tryz.sizeOf3
  v3 := Tryz.zeroValue3
  t4 := Tryz.underlying4
  a4 := Tryz.isAgg4
  z4 := Tryz.sizeOf4
  v4 := Tryz.zeroValue4
  t5 := Tryz.underlying5
  a5 := Tryz.isAgg5
  z5 := Tryz.sizeOf5
  v5 := Tryz.zeroValue5
  t9 := Tryz.underlying9
  a9 := Tryz.isAgg9
  z9 := Tryz.sizeOf9
  v9 := Tryz.zeroValue9
  t21 := Tryz.underlying21
  a21 := Tryz.isAgg21
  z21 := Tryz.sizeOf21
  v21 := Tryz.zeroValue21
  t46 := Tryz.underlying108
  a46 := Tryz.isAgg108
  z46 := Tryz.sizeOf108
  v46 := Tryz.zeroValue108 }
open Go.RowKit Go.Lib in
theorem Tryz.strings_ContainsRune_ascii (s : ByteArray) (r : Int) (w : World) (h0 : 0 ≤ r) (h1 : r < 128) :
    Calls Tryz.prog 95 #[.string s, .int .i32 r] w fun e w' => e = .returned (.bool (decide (0 ≤ Lib.indexByte s.data.toList r.toNat.toUInt8))) ∧ w' = w := Any.strings_ContainsRune_ascii Tryz.lays151 s r w h0 h1
def Tryz.lays227_ren : Go.Shelf.Ren := ⟨fun | 227 => 85 | n => n, fun | 9 => 9 | 116 => 121 | 4 => 4 | 0 => 0 | 3 => 3 | 5 => 5 | n => n, fun | n => n⟩
theorem Tryz.lays227 : Go.Proofs.Lays.n227 Tryz.prog Tryz.lays227_ren := {
  mixed := by kernel_rfl
  f227 := Tryz.func85.trans (congrArg some (by kernel_rfl))
  t0 := Tryz.underlying0
  a0 := Tryz.isAgg0
  z0 := Tryz.sizeOf0
  v0 := Tryz.zeroValue0
  t3 := Tryz.underlying3
  a3 := Tryz.isAgg3
  z3 := Tryz.sizeOf3
  v3 := Tryz.zeroValue3
  t4 := Tryz.underlying4
  a4 := Tryz.isAgg4
  z4 := Tryz.sizeOf4
  v4 := Tryz.zeroValue4
  t5 := Tryz.underlying5
  a5 := Tryz.isAgg5
  z5 := Tryz.sizeOf5
  v5 := Tryz.zeroValue5
  t9 := Tryz.underlying9
  a9 := Tryz.isAgg9
  z9 := Tryz.sizeOf9
  v9 := Tryz.zeroValue9
  t116 := Tryz.underlying121
  a116 := Tryz.isAgg121
  z116 := Tryz.sizeOf121 }
open Go.RowKit Go.Lib in
theorem Tryz.strings_makeASCIISet (hv116 : ∀ w, (zeroValue 121).run Tryz.prog w = .ok (.agg (Array.replicate 256 (.bool false))) w) (chars : ByteArray) (w : World) (hs : chars.size < 4294967281) (hascii : ∀ (j : Nat) b, chars.data.toList[j]? = some b → b.toNat < 128) :
    Calls Tryz.prog 85 #[.string chars] w fun e w' => e = .returned (.tuple #[.agg (Lib.setCells chars.data.toList), .bool true]) ∧ w' = w.alloc (.cells (Lib.setCells chars.data.toList) 121) := Any.strings_makeASCIISet Tryz.lays227 hv116 (by kernel_rfl) chars w hs hascii
def Tryz.lays228_ren : Go.Shelf.Ren := ⟨fun | 228 => 93 | n => n, fun | 124 => 125 | 5 => 5 | 4 => 4 | 0 => 0 | 116 => 121 | n => n, fun | n => n⟩
theorem Tryz.lays228 : Go.Proofs.Lays.n228 Tryz.prog Tryz.lays228_ren := {
  mixed := by kernel_rfl
  f228 := Tryz.func93.trans (congrArg some (by kernel_rfl))
  t0 := Tryz.underlying0
  a0 := Tryz.isAgg0
  z0 := Tryz.sizeOf0
  v0 := Tryz.zeroValue0
  t4 := Tryz.underlying4
  a4 := Tryz.isAgg4
  z4 := Tryz.sizeOf4
  v4 := Tryz.zeroValue4
  t5 := Tryz.underlying5
  a5 := Tryz.isAgg5
  z5 := Tryz.sizeOf5
  v5 := Tryz.zeroValue5
  t116 := Tryz.underlying121
  a116 := Tryz.isAgg121
  z116 := Tryz.sizeOf121
  t124 := Tryz.underlying125
  a124 := Tryz.isAgg125
  z124 := Tryz.sizeOf125
  v124 := Tryz.zeroValue125 }
open Go.RowKit Go.Lib in
/-- '(as *asciiSet) contains(c)': 'as[c]': the set lies at block b, whole. (LAID: no walk: one application.) -/
theorem Tryz.asciiSet_contains (b : Nat) (x : UInt8) (v : Bool) (w : World) (hc : w.cell? ⟨b, x.toNat, none⟩ = some (.bool v)) :
    Calls Tryz.prog 93 #[.pointer (some ⟨b, 0, none⟩), .int .u8 x.toNat] w fun e w' => e = .returned (.bool v) ∧ w' = w := Any.asciiSet_contains Tryz.lays228 b x v w hc
def Tryz.lays260_ren : Go.Shelf.Ren := ⟨fun | 260 => 102 | n => n, fun | 9 => 9 | 21 => 21 | 3 => 3 | 4 => 4 | 5 => 5 | 119 => 135 | 0 => 0 | 46 => 108 | 139 => 138 | 138 => 137 | n => n, fun | 3 => 2 | 4 => 3 | n => n⟩
theorem Tryz.lays260 : Go.Proofs.Lays.n260 Tryz.prog Tryz.lays260_ren := {
  mixed := by kernel_rfl
  f260 := Tryz.func102.trans (congrArg some (by kernel_rfl))
  t0 := Tryz.underlying0
  a0 := Tryz.isAgg0
  z0 := Tryz.sizeOf0
  v0 := Tryz.zeroValue0
  t3 := Tryz.underlying3
  a3 := Tryz.isAgg3
  z3 := Tryz.sizeOf3
  v3 := Tryz.zeroValue3
  t4 := Tryz.underlying4
  a4 := Tryz.isAgg4
  z4 := Tryz.sizeOf4
  v4 := Tryz.zeroValue4
  t5 := Tryz.underlying5
  a5 := Tryz.isAgg5
  z5 := Tryz.sizeOf5
  v5 := Tryz.zeroValue5
  t9 := Tryz.underlying9
  a9 := Tryz.isAgg9
  z9 := Tryz.sizeOf9
  v9 := Tryz.zeroValue9
  t21 := Tryz.underlying21
  a21 := Tryz.isAgg21
  z21 := Tryz.sizeOf21
  v21 := Tryz.zeroValue21
  t46 := Tryz.underlying108
  a46 := Tryz.isAgg108
  z46 := Tryz.sizeOf108
  v46 := Tryz.zeroValue108
  t119 := Tryz.underlying135
  a119 := Tryz.isAgg135
  z119 := Tryz.sizeOf135
  t138 := Tryz.underlying137
  a138 := Tryz.isAgg137
  z138 := Tryz.sizeOf137
  v138 := Tryz.zeroValue137
  t139 := Tryz.underlying138
  a139 := Tryz.isAgg138
  z139 := Tryz.sizeOf138
  v139 := Tryz.zeroValue138
  g3 := by kernel_rfl
  g4 := by kernel_rfl }
open Go.RowKit Go.Lib in
theorem Tryz.utf8_decodeRuneInStringSlow (s : ByteArray) (w : World) (hT : Lib.Utf8Tabs 2 3 w) :
    Calls Tryz.prog 102 #[.string s] w fun e w' => e = .returned (.tuple #[.int .i32 (Lib.decodeGo s).1, .int .i64 (Lib.decodeGo s).2]) ∧ Below w.heap.size w w' := Any.utf8_decodeRuneInStringSlow Tryz.lays260 s w hT
end Go.Proofs

/- PLAIN WORDS, no program in sight: names, paths, pieces between slashes. -/
namespace Go.Proofs.YtomckoldfdeidaaGreatDoor
open Go

def nameL (l : List UInt8) : Bool := decide (1 ≤ l.length) && decide (l.length ≤ 255) && !(l.contains 47) && !(l.contains 0) && (l != [46]) && (l != [46, 46])
def rightL (l : List UInt8) : Bool := decide (1 ≤ l.length) && decide (l.length ≤ 4095) && !(l.contains 0)

def pieces : List UInt8 → List (List UInt8)
  | [] => [[]]
  | c :: r => if c = 47 then [] :: pieces r else match pieces r with | p :: ps => (c :: p) :: ps | [] => [[c]]

theorem pieces_ne (l : List UInt8) : pieces l ≠ [] := by
  cases l with
  | nil => simp [pieces]
  | cons c r => unfold pieces; split <;> (try split) <;> simp

def plainL (l : List UInt8) : Bool := rightL l && (pieces l).all nameL

/-- The pieces of what stands ahead of a slash, the slash, the rest. -/
theorem pieces_append (a b : List UInt8) (h : 47 ∉ a) : pieces (a ++ 47 :: b) = a :: pieces b := by
  induction a with
  | nil => simp [pieces]
  | cons c r ih =>
    have hc : ¬ c = 47 := fun e => h (by simp [e])
    have hr : 47 ∉ r := fun e => h (by simp [e])
    rw [List.cons_append, pieces, if_neg hc, ih hr]

theorem pieces_no (a : List UInt8) (h : 47 ∉ a) : pieces a = [a] := by
  induction a with
  | nil => rfl
  | cons c r ih =>
    have hc : ¬ c = 47 := fun e => h (by simp [e])
    have hr : 47 ∉ r := fun e => h (by simp [e])
    rw [pieces, if_neg hc, ih hr]

theorem index_one (l : List UInt8) (c : UInt8) : Lib.index l [c] = Lib.indexByte l c := by
  induction l with
  | nil => rfl
  | cons b r ih =>
    simp only [Lib.index, Lib.indexByte, ih, List.isPrefixOf, Bool.and_true]
    have e : (c == b) = (b == c) := by rw [Bool.eq_iff_iff, beq_iff_eq, beq_iff_eq]; exact ⟨Eq.symm, Eq.symm⟩
    rw [e]

/-- indexByte: none, or the head without the byte. -/
theorem indexByte_spec (l : List UInt8) (c : UInt8) : (Lib.indexByte l c = -1 ∧ c ∉ l) ∨ (∃ k : Nat, k < l.length ∧ Lib.indexByte l c = k ∧ c ∉ l.take k ∧ l = l.take k ++ c :: l.drop (k + 1)) := by
  induction l with
  | nil => left; exact ⟨rfl, by simp⟩
  | cons b r ih =>
    unfold Lib.indexByte
    by_cases hb : b = c
    · subst hb
      right; exact ⟨0, by simp, by simp, by simp, by simp⟩
    · rw [if_neg (by simpa using hb)]
      rcases ih with ⟨h1, h2⟩ | ⟨k, h1, h2, h3, h4⟩
      · left; rw [h1]; exact ⟨rfl, by simp only [List.mem_cons, not_or]; exact ⟨fun e => hb e.symm, h2⟩⟩
      · right
        refine ⟨k + 1, by simpa using h1, ?_, ?_, ?_⟩
        · rw [h2]; simp
          try omega
        · simp only [List.take_succ_cons, List.mem_cons, not_or]; exact ⟨fun e => hb e.symm, h3⟩
        · simp only [List.take_succ_cons, List.cons_append, List.drop_succ_cons]; rw [← h4]

theorem indexByte_neg (l : List UInt8) (c : UInt8) : decide (Lib.indexByte l c < 0) = !(l.contains c) := by
  rcases indexByte_spec l c with ⟨h, hn⟩ | ⟨k, h1, h2, h3, h4⟩
  · rw [h]; simp [hn]
  · rw [h2]
    have hm : c ∈ l := by rw [h4]; simp
    simp [hm]

theorem splitK_pieces (k : Nat) : ∀ (l : List UInt8), Lib.count l [47] = k → Lib.splitK [47] 0 k l = pieces l := by
  induction k with
  | zero =>
    intro l h
    rw [Lib.splitK]
    rcases indexByte_spec l 47 with ⟨_, hn⟩ | ⟨k, h1, h2, h3, h4⟩
    · rw [pieces_no l hn]
    · rw [Lib.count_hit (i := k) (by simp) (by rw [index_one]; exact h2)] at h
      omega
  | succ k ih =>
    intro l h
    rw [Lib.splitK, index_one]
    rcases indexByte_spec l 47 with ⟨h1, hn⟩ | ⟨j, h1, h2, h3, h4⟩
    · rw [Lib.count_miss (by rw [index_one]; exact h1)] at h
      omega
    · rw [Lib.count_hit (i := j) (by simp) (by rw [index_one]; exact h2)] at h
      rw [h2, if_neg (by simp), ih _ (by simp at h ⊢; omega)]
      have e := pieces_append (l.take j) (l.drop (j + 1)) h3
      rw [← h4] at e
      rw [e]
      simp

/-- What strings.Split makes of a text, at a slash, is its pieces. -/
theorem splitB_pieces (s : ByteArray) : (Lib.splitB ⟨#[47]⟩ 0 (Lib.countB s ⟨#[47]⟩) s).map (·.data.toList) = pieces s.data.toList := by
  rw [Lib.splitB_data]
  exact splitK_pieces _ _ rfl

theorem splitB_len (s : ByteArray) : (Lib.splitB ⟨#[47]⟩ 0 (Lib.countB s ⟨#[47]⟩) s).length = Lib.countB s ⟨#[47]⟩ + 1 :=
  Lib.splitB_all ⟨#[47]⟩ (by decide) 0 _ s rfl
end Go.Proofs.YtomckoldfdeidaaGreatDoor

/- package path: Right, Name, Plain, as plain words. -/
namespace Go.Proofs.YtomckoldfdeidaaGreatDoor
open Go.RowKit

theorem ret_bool {a b : Bool} (h : a = b) : Ending.returned (.bool a) = .returned (.bool b) := by rw [h]
theorem ret_int {k : IntKind} {a b : Int} (h : a = b) : Ending.returned (.int k a) = .returned (.int k b) := by rw [h]
theorem ret_str {a b : ByteArray} (h : a = b) : Ending.returned (.string a) = .returned (.string b) := by rw [h]

theorem rightL_eq (s : ByteArray) : rightL s.data.toList = (!s.toList.isEmpty && decide ((s.size : Int) ≤ 4095) && decide (Lib.indexByte s.data.toList 0 < 0)) := by
  unfold rightL
  rw [indexByte_neg, ← Lib.size_eq, Lib.toList_data]
  have e : decide (1 ≤ s.size) = !s.data.toList.isEmpty := by
    rw [Lib.size_eq]; cases s.data.toList <;> simp
  rw [e]
  have e2 : decide (s.size ≤ 4095) = decide ((s.size : Int) ≤ 4095) := by rw [decide_eq_decide]; omega
  rw [e2]

theorem nameL_eq (s : ByteArray) : nameL s.data.toList = (!s.toList.isEmpty && decide ((s.size : Int) ≤ 255) && !(s.toList == [46]) && !(s.toList == [46, 46]) && decide (Lib.indexByte s.data.toList 47 < 0) && decide (Lib.indexByte s.data.toList 0 < 0)) := by
  unfold nameL
  rw [indexByte_neg, indexByte_neg, ← Lib.size_eq, Lib.toList_data]
  have e : decide (1 ≤ s.size) = !s.data.toList.isEmpty := by
    rw [Lib.size_eq]; cases s.data.toList <;> simp
  have e2 : decide (s.size ≤ 255) = decide ((s.size : Int) ≤ 255) := by rw [decide_eq_decide]; omega
  rw [e, e2]
  simp only [bne]
  cases !s.data.toList.isEmpty <;> cases decide ((s.size : Int) ≤ 255) <;> cases (s.data.toList == [46]) <;> cases (s.data.toList == [46, 46]) <;> cases (s.data.toList.contains 47) <;> cases (s.data.toList.contains 0) <;> rfl

set_option maxHeartbeats 400000 in
theorem path_Right (s : ByteArray) (w : World) :
    Calls Tryz.prog 63 #[.string s] w fun e w' => e = .returned (.bool (rightL s.data.toList)) ∧ w = w' := by
  go_enter Tryz.func63, Tryz.ntmps63
  go_wp2_with (go_at_call 64; refine (Tryz.strings_IndexByte _ _ _).mono ?_; rintro e w' ⟨rfl, rfl⟩)
  all_goals
    go_ret
    refine ⟨ret_bool ?_, rfl⟩
    rw [rightL_eq]
    simp [*]
    try (intros; omega)

set_option maxHeartbeats 400000 in
theorem path_Name (s : ByteArray) (w : World) :
    Calls Tryz.prog 74 #[.string s] w fun e w' => e = .returned (.bool (nameL s.data.toList)) ∧ w = w' := by
  go_enter Tryz.func74, Tryz.ntmps74
  go_wp2_with (go_at_call 64; refine (Tryz.strings_IndexByte _ _ _).mono ?_; rintro e w' ⟨rfl, rfl⟩)
  all_goals
    go_ret
    refine ⟨ret_bool ?_, rfl⟩
    rw [nameL_eq]
    simp [*]
    try (intros; omega)

/-- What the library's internal/bytealg.MaxLen holds is some int. -/
def Glob (w : World) : Prop := ∃ m, w.cell? ⟨1, 0, none⟩ = some (.int .i64 m)
theorem Glob.lt {w : World} (h : Glob w) : 1 < w.heap.size := by
  obtain ⟨m, hm⟩ := h
  exact World.block_lt_of_cell? w ⟨1, 0, none⟩ hm
theorem Glob.below {w w' : World} (h : Glob w) (hb : Below w.heap.size w w') : Glob w' := by
  have hlt := h.lt
  obtain ⟨m, hm⟩ := h
  exact ⟨m, (hb.cell (p := ⟨1, 0, none⟩) hlt).trans hm⟩
theorem Glob.belowB {B : Nat} {w0 w w' : World} (h : Glob w) (h0 : Glob w0) (hB : w0.heap.size ≤ B) (hb : Below B w w') : Glob w' := by
  have hlt := h0.lt
  obtain ⟨m, hm⟩ := h
  exact ⟨m, (hb.cell (p := ⟨1, 0, none⟩) (by show 1 < B; omega)).trans hm⟩

set_option maxRecDepth 100000 in
set_option maxHeartbeats 800000 in
theorem path_Plain (s : ByteArray) (w : World) (hg : Glob w) :
    Calls Tryz.prog 51 #[.string s] w fun e w' => e = .returned (.bool (plainL s.data.toList)) ∧ Below w.heap.size w w' := by
  obtain ⟨m, hm⟩ := hg
  cases hr : rightL s.data.toList with
  | false =>
    have HR := Lib.hid hr
    go_enter Tryz.func51, Tryz.ntmps51
    go_wp2_with (go_at_call 63; refine (path_Right _ _).mono ?_; rintro e w' ⟨rfl, rfl⟩; rw [hr])
    go_ret
    refine ⟨ret_bool ?_, Below.refl _ _⟩
    unfold plainL; rw [HR.out]; rfl
  | true =>
    have hsz : s.size < 4294967281 := by
      unfold rightL at hr; rw [← Lib.size_eq] at hr; simp at hr; omega
    have HR := Lib.hid hr
    have hlen := splitB_len s
    obtain ⟨N, hN⟩ : ∃ N, N = Lib.countB s ⟨#[47]⟩ + 1 := ⟨_, rfl⟩
    obtain ⟨ps, hps⟩ : ∃ ps, ps = Lib.splitB ⟨#[47]⟩ 0 (Lib.countB s ⟨#[47]⟩) s := ⟨_, rfl⟩
    rw [← hps, ← hN] at hlen
    have hsp := Tryz.strings_Split s ⟨#[47]⟩ m w hsz hm (by decide)
    rw [← hps, ← hN] at hsp
    have HL := Lib.hid hlen; clear hlen
    have hN2 : N ≤ 4294967282 := by have := Lib.countB_le ⟨#[47]⟩ (by decide) _ s (Nat.le_refl _); omega
    have HN := Lib.hid hN; clear hN
    have HP := Lib.hid hps; clear hps
    go_enter Tryz.func51, Tryz.ntmps51
    go_wp2_with (first | (go_at_call 63; refine (path_Right _ _).mono ?_; rintro e w' ⟨rfl, rfl⟩; rw [hr]) | (go_at_call 73; refine hsp.mono ?_; rintro e w' ⟨rfl, rfl⟩))
    go_loop [11] (fun i => ∃ k : Nat, k ≤ N ∧ i = .int .i64 k ∧ (ps.take k).all (fun p => nameL p.data.toList) = true) (fun i => N - (intOf i).toNat)
    case atStart => exact ⟨0, Nat.zero_le _, rfl, rfl⟩
    case round =>
      obtain ⟨k, hk, rfl, hall⟩ := hrel
      have HA := Lib.hid hall
      clear hall
      by_cases hlt : k < N
      · obtain ⟨p, hp⟩ : ∃ p, ps[k]? = some p := ⟨_, List.getElem?_eq_getElem (by rw [HL.out]; exact hlt)⟩
        have hcell : (w.alloc (.cells (ps.map Value.string).toArray 9)).cell? ⟨w.heap.size, k, none⟩ = some (.string p) := by
          rw [World.cell?_alloc_at _ _ _ _ rfl]; simp [hp]
        have hts : (ps.take (k + 1)).all (fun p => nameL p.data.toList) = ((ps.take k).all (fun p => nameL p.data.toList) && nameL p.data.toList) := by
          rw [List.take_add_one, hp]; simp
        have HT := Lib.hid hts; clear hts
        have HPk := Lib.hid hp; clear hp
        cases hn : nameL p.data.toList with
        | true =>
          go_wp2_with (go_at_call 74; refine (path_Name _ _).mono ?_; rintro e w' ⟨rfl, rfl⟩; rw [hn])
          go_round
          case rel => exact ⟨k + 1, by omega, by go_num, by rw [HT.out, HA.out, hn]; rfl⟩
          case measure => simp [intOf]; omega
        | false =>
          go_wp2_with (go_at_call 74; refine (path_Name _ _).mono ?_; rintro e w' ⟨rfl, rfl⟩; rw [hn])
          go_ret
          refine ⟨ret_bool ?_, (Below.refl _ _).alloc (Nat.le_refl _) _⟩
          unfold plainL
          rw [HR.out, ← splitB_pieces, ← HP.out, List.all_map]
          have : p ∈ ps := List.mem_of_getElem? HPk.out
          rw [List.all_eq_false.2 ⟨p, this, by simp [hn]⟩]; rfl
      · go_wp2
        go_ret
        refine ⟨ret_bool ?_, (Below.refl _ _).alloc (Nat.le_refl _) _⟩
        unfold plainL
        rw [HR.out, ← splitB_pieces, ← HP.out, List.all_map]
        have h2 := HA.out
        rw [List.take_of_length_le (by rw [HL.out]; omega)] at h2
        exact h2.symm
end Go.Proofs.YtomckoldfdeidaaGreatDoor

/- package math and package gain: floats that are not below nought, their rank, which is less. -/
namespace Go.Proofs.YtomckoldfdeidaaGreatDoor
open Go.RowKit

theorem run_fbits (b : Nat) (w : World) : (callFunc 78 #[.float .f64 b]).run Tryz.prog w = .ok (.value (.int .u64 b)) w := by
  rw [run_callFunc_extern Tryz.func78 (by kernel_rfl) (by kernel_rfl) (by kernel_rfl) (e := Extern.MathFloatBits.float64bits) (by kernel_rfl)]
  rfl
theorem run_ffrom (n : Int) (w : World) : (callFunc 76 #[.int .u64 n]).run Tryz.prog w = .ok (.value (.float .f64 n.toNat)) w := by
  rw [run_callFunc_extern Tryz.func76 (by kernel_rfl) (by kernel_rfl) (by kernel_rfl) (e := Extern.MathFloatBits.float64frombits) (by kernel_rfl)]
  rfl

/-- A float that a share or a way's cost is: not below nought, or the one NaN. -/
def Wd (b : Nat) : Prop := b ≤ INFW ∨ b = NANW
def keyW (b : Nat) : Nat := if b ≤ INFW then b else INFW + 1

theorem math_Inf (w : World) : Calls Tryz.prog 56 #[.int .i64 1] w fun e w' => e = .returned (.float .f64 INFW) ∧ w = w' := by
  have h := run_ffrom
  go_enter Tryz.func56, Tryz.ntmps56
  go_wp2
  go_ret
  exact ⟨rfl, rfl⟩

theorem math_NaN (w : World) : Calls Tryz.prog 60 #[] w fun e w' => e = .returned (.float .f64 NANW) ∧ w = w' := by
  have h := run_ffrom
  go_enter Tryz.func60, Tryz.ntmps60
  go_wp2
  go_ret
  exact ⟨rfl, rfl⟩

theorem order_nan : FloatKind.f64.format.order NANW NANW = none := by decide
theorem order_self {b : Nat} (h : b ≤ INFW) : FloatKind.f64.format.order b b = some .eq := by
  rw [show FloatKind.f64.format = Ieee.double from rfl, order_words h h]; simp

theorem math_IsNaN (b : Nat) (hb : Wd b) (w : World) : Calls Tryz.prog 39 #[.float .f64 b] w fun e w' => e = .returned (.bool (decide (INFW < b))) ∧ w = w' := by
  rcases hb with hb | rfl
  · have h := order_self hb
    have e : decide (INFW < b) = false := by rw [decide_eq_false_iff_not]; omega
    rw [e]
    have HB := Lib.hid hb; clear hb e
    go_enter Tryz.func39, Tryz.ntmps39
    go_wp2
    go_ret
    exact ⟨rfl, rfl⟩
  · have h := order_nan
    have e : decide (INFW < NANW) = true := by decide
    rw [e]
    clear e
    go_enter Tryz.func39, Tryz.ntmps39
    go_wp2
    go_ret
    exact ⟨rfl, rfl⟩

theorem math_IsInf (b : Nat) (hb : Wd b) (w : World) : Calls Tryz.prog 38 #[.float .f64 b, .int .i64 1] w fun e w' => e = .returned (.bool (decide (b = INFW))) ∧ w = w' := by
  have h : (FloatKind.f64.format.order b 9218868437227405311 == some .gt) = decide (b = INFW) := by
    rcases hb with hb | rfl
    · rw [show FloatKind.f64.format = Ieee.double from rfl, order_words hb (by decide), cmp_nat]
      by_cases e : b = INFW
      · subst e; decide
      · have : b < INFW := by omega
        unfold INFW at this
        split
        · simp [e]
        · split
          · simp [e]
          · omega
    · decide
  obtain ⟨r, hr⟩ : ∃ r, r = decide (b = INFW) := ⟨_, rfl⟩
  rw [← hr] at h ⊢
  have HB := Lib.hid hb; clear hb hr
  go_enter Tryz.func38, Tryz.ntmps38
  go_wp2
  go_ret
  exact ⟨rfl, rfl⟩

theorem gain_rank (b : Nat) (hb : Wd b) (w : World) : Calls Tryz.prog 77 #[.float .f64 b] w fun e w' => e = .returned (.int .u64 (if b ≤ INFW then (b : Int) + 9223372036854775808 else 18446744073709551615)) ∧ w = w' := by
  have hN := math_IsNaN b hb
  have hf := run_fbits
  rcases hb with hb | rfl
  · rw [if_pos hb]
    have e : decide (INFW < b) = false := by rw [decide_eq_false_iff_not]; omega
    rw [e] at hN
    have hlt : b < 9223372036854775808 := by unfold INFW at hb; omega
    have ha : Go.bits .and .u64 (b : Int) 9223372036854775808 = 0 := by
      have := bits_and_u64_nat b 9223372036854775808 (by omega) (by omega)
      rw [show ((9223372036854775808 : Nat) : Int) = 9223372036854775808 from rfl] at this
      rw [this]
      have e2 : b &&& 9223372036854775808 = 0 := by
        have : (9223372036854775808 : Nat) = 2 ^ 63 := by decide
        rw [this]
        have h63 : b < 2 ^ 63 := by rw [← this]; exact hlt
        apply Nat.eq_of_testBit_eq
        intro i
        rw [Nat.testBit_and, Nat.testBit_two_pow, Nat.zero_testBit]
        by_cases h : 63 = i
        · subst h; rw [Nat.testBit_lt_two_pow h63]; rfl
        · simp [h]
      rw [e2]; rfl
    have ho : Go.bits .or .u64 (b : Int) 9223372036854775808 = (b : Int) + 9223372036854775808 := by
      have := bits_or_u64_nat b 9223372036854775808 (by omega) (by omega)
      rw [show ((9223372036854775808 : Nat) : Int) = 9223372036854775808 from rfl] at this
      rw [this]
      have e2 : b ||| 9223372036854775808 = b + 9223372036854775808 := by
        have h0 : (9223372036854775808 : Nat) = 2 ^ 63 := by decide
        have h63 : b < 2 ^ 63 := by rw [← h0]; exact hlt
        have := Nat.two_pow_add_eq_or_of_lt h63 1
        rw [Nat.mul_one] at this
        rw [h0, Nat.or_comm, ← this, Nat.add_comm]
      rw [e2]; omega
    obtain ⟨r, hr⟩ : ∃ r, r = (b : Int) + 9223372036854775808 := ⟨_, rfl⟩
    rw [← hr] at ho ⊢
    have HB := Lib.hid hb; clear hb hr e
    go_enter Tryz.func77, Tryz.ntmps77
    go_wp2_with (go_at_call 39; refine (hN _).mono ?_; rintro e w' ⟨rfl, rfl⟩)
    go_ret
    exact ⟨rfl, rfl⟩
  · rw [if_neg (by decide)]
    have e : decide (INFW < NANW) = true := by decide
    rw [e] at hN
    clear e
    go_enter Tryz.func77, Tryz.ntmps77
    go_wp2_with (go_at_call 39; refine (hN _).mono ?_; rintro e w' ⟨rfl, rfl⟩)
    go_ret
    exact ⟨rfl, rfl⟩

theorem gain_Less (a b : Nat) (ha : Wd a) (hb : Wd b) (w : World) : Calls Tryz.prog 61 #[.float .f64 a, .float .f64 b] w fun e w' => e = .returned (.bool (decide (keyW a < keyW b))) ∧ w = w' := by
  have h1 := gain_rank a ha
  have h2 := gain_rank b hb
  obtain ⟨x, hx⟩ : ∃ x : Int, x = if a ≤ INFW then (a : Int) + 9223372036854775808 else 18446744073709551615 := ⟨_, rfl⟩
  obtain ⟨y, hy⟩ : ∃ y : Int, y = if b ≤ INFW then (b : Int) + 9223372036854775808 else 18446744073709551615 := ⟨_, rfl⟩
  rw [← hx] at h1
  rw [← hy] at h2
  have e : decide (keyW a < keyW b) = decide (x < y) := by
    rw [decide_eq_decide, hx, hy]
    unfold keyW INFW
    split <;> split <;> omega
  rw [e]
  have HX := Lib.hid hx; have HY := Lib.hid hy
  clear hx hy e ha hb
  go_enter Tryz.func61, Tryz.ntmps61
  go_wp2_with (first | (go_at_call 77; (with_reducible refine (h1 _).mono ?_); rintro e w' ⟨rfl, rfl⟩) | (go_at_call 77; (with_reducible refine (h2 _).mono ?_); rintro e w' ⟨rfl, rfl⟩))
  go_ret
  exact ⟨rfl, rfl⟩
end Go.Proofs.YtomckoldfdeidaaGreatDoor

/- PLAIN WORDS: texts, what the ways to tell bytes cost. -/
namespace Go.Proofs.YtomckoldfdeidaaGreatDoor
open Go

/-- A sign that may stand as it is in a line. -/
def okc (c : UInt8) : Bool := decide ((32 ≤ c.toNat ∧ c.toNat ≤ 126) ∨ c.toNat = 9 ∨ c.toNat = 10)
def textB (l : List UInt8) : Bool := l.all okc && (l.getLast? == some 10)
/-- A sign that stands for itself in a format. -/
def plc (c : UInt8) : Bool := decide (32 ≤ c.toNat ∧ c.toNat ≤ 126 ∧ c.toNat ≠ 37 ∧ c.toNat ≠ 92 ∧ c.toNat ≠ 39)
def escN (l : List UInt8) : Nat := (l.map fun c => if plc c then 1 else 4).sum
def encN (n : Nat) : Nat := n / 45 * 62 + (if n % 45 = 0 then 0 else (n % 45 + 2) / 3 * 4 + 2) + 6

theorem escN_le (l : List UInt8) : l.length ≤ escN l ∧ escN l ≤ 4 * l.length := by
  unfold escN
  induction l with
  | nil => simp
  | cons c r ih =>
    simp only [List.map_cons, List.sum_cons, List.length_cons]
    split <;> omega
theorem escN_snoc (l : List UInt8) (c : UInt8) : escN (l ++ [c]) = escN l + if plc c then 1 else 4 := by
  unfold escN; simp
theorem encN_le (n : Nat) : encN n ≤ 2 * n + 70 := by
  unfold encN; split <;> omega

/-- What a way costs, as a float's word. -/
def costW (way : Int) (l : List UInt8) : Nat :=
  if way = 1 then (if textB l then shareW l.length l.length else INFW)
  else if way = 2 then shareW (encN l.length) l.length
  else if way = 3 then (if l.length ≤ 256 then shareW (escN l) l.length else INFW)
  else NANW
end Go.Proofs.YtomckoldfdeidaaGreatDoor

/- package gain: Text, Share, Cost; package uu: Encoded; package format: plain, Escaped. -/
namespace Go.Proofs.YtomckoldfdeidaaGreatDoor
open Go.RowKit Go.Joins

theorem gain_Share (n d : Nat) (hn : n < 9007199254740992) (h1 : 1 ≤ d) (h2 : d < 9007199254740992) (w : World) :
    Calls Tryz.prog 57 #[.int .i64 n, .int .i64 d] w fun e w' => e = .returned (.float .f64 (shareW n d)) ∧ w = w' := by
  have h := (share_word n d hn h1 h2).1
  have hr := fun (w : World) (t : TypeId) => run_float_arith (P := Tryz.prog) w .quo t .f64 (floatOfInt .f64 n) (floatOfInt .f64 d) (shareW n d) h
  clear h
  go_enter Tryz.func57, Tryz.ntmps57
  go_wp2
  go_ret
  exact ⟨rfl, rfl⟩

theorem toNat_eq {c : UInt8} {k : UInt8} (h : c.toNat = k.toNat) : c = k := UInt8.toNat_inj.1 h

theorem int_beq10 (c : UInt8) : (((c.toNat : Nat) : Int) == 10) = (some c == some (10 : UInt8)) := by
  rw [Bool.eq_iff_iff, beq_iff_eq, beq_iff_eq]
  constructor
  · intro h; rw [toNat_eq (c := c) (k := 10) (by show c.toNat = 10; omega)]
  · intro h; cases h; rfl

theorem take_succ_all {l : List UInt8} {k : Nat} {c : UInt8} (h : l[k]? = some c) (p : UInt8 → Bool) : (l.take (k + 1)).all p = ((l.take k).all p && p c) := by
  rw [List.take_add_one, h]; simp

set_option maxRecDepth 100000 in
set_option maxHeartbeats 1600000 in
theorem gain_Text (s : ByteArray) (w : World) (hs : s.size ≤ 9223372036854775807) :
    Calls Tryz.prog 35 #[.string s] w fun e w' => e = .returned (.bool (textB s.data.toList)) ∧ Below w.heap.size w w' := by
  have hcv := Lib.run_convert_string_bytes (P := Tryz.prog) w 9 91 5 s Tryz.underlying9 Tryz.underlying91 Tryz.underlying5
  have hbel := below_bytesWorld w.heap.size w 5 s (Nat.le_refl _)
  go_enter Tryz.func35, Tryz.ntmps35
  go_wp2
  go_loop [8] (fun i => ∃ k : Nat, k ≤ s.size ∧ i = .int .i64 k ∧ (s.data.toList.take k).all okc = true) (fun i => s.size - (intOf i).toNat)
  case atStart => exact ⟨0, Nat.zero_le _, rfl, rfl⟩
  case round =>
    obtain ⟨k, hk, rfl, hall⟩ := hrel
    have HA := Lib.hid hall
    clear hall
    by_cases hlt : k < s.size
    · have hcell := Lib.bytesWorld_cell w 5 s k hlt
      have hget := Lib.data_getElem? s k hlt
      obtain ⟨c, hc⟩ : ∃ c, c = s[k] := ⟨_, rfl⟩
      rw [← hc] at hget
      rw [show s.data.toList.getD k 0 = c by rw [List.getD_eq_getElem?_getD, hget]; rfl] at hcell
      have HG := Lib.hid hget; clear hget hc
      cases hok : okc c with
      | true =>
        have hcs : (32 ≤ c.toNat ∧ c.toNat ≤ 126) ∨ c = 9 ∨ c = 10 := by
          unfold okc at hok
          rcases of_decide_eq_true hok with h | h | h
          · exact .inl h
          · exact .inr (.inl (toNat_eq h))
          · exact .inr (.inr (toNat_eq h))
        have HO := Lib.hid hok; clear hok
        rcases hcs with ⟨ha, hb⟩ | rfl | rfl
        all_goals
          go_wp2
          go_round
          case rel => exact ⟨k + 1, by omega, by go_num, by rw [take_succ_all HG.out, HA.out, HO.out]; rfl⟩
          case measure => simp [intOf]; omega
      | false =>
        have hcs : (c.toNat < 32 ∨ 126 < c.toNat) ∧ c.toNat ≠ 9 ∧ c.toNat ≠ 10 := by
          unfold okc at hok
          have := of_decide_eq_false hok
          omega
        obtain ⟨h1, h9, h10⟩ := hcs
        have h9b : (((c.toNat : Nat) : Int) != 9) = true := by rw [bne_iff_ne]; omega
        have h10b : (((c.toNat : Nat) : Int) != 10) = true := by rw [bne_iff_ne]; omega
        have HO := Lib.hid hok; clear hok h9 h10
        rcases h1 with h1 | h1
        all_goals
          go_wp2
          go_ret
          refine ⟨ret_bool ?_, hbel⟩
          unfold textB
          have hm : c ∈ s.data.toList := List.mem_of_getElem? HG.out
          rw [show s.data.toList.all okc = false from List.all_eq_false.2 ⟨c, hm, by rw [HO.out]; simp⟩]
          rfl
    · have ha : s.data.toList.all okc = true := by
        have h2 := HA.out
        rw [List.take_of_length_le (by rw [← Lib.size_eq]; omega)] at h2
        exact h2
      by_cases h0 : s.size = 0
      · have hl : s.data.toList = [] := by rw [← List.length_eq_zero_iff, ← Lib.size_eq]; exact h0
        have hl2 : s.toList.isEmpty = true := by rw [Lib.toList_data, hl]; rfl
        have HL := Lib.hid hl; have HAA := Lib.hid ha
        clear ha hl h0
        go_wp2
        go_ret
        refine ⟨ret_bool ?_, hbel⟩
        rw [HL.out]; rfl
      · have hl2 : s.toList.isEmpty = false := by
          rw [Lib.toList_data]
          cases hq : s.data.toList with
          | nil => exfalso; apply h0; rw [Lib.size_eq, hq]; rfl
          | cons a b => rfl
        have i0 : (0 : Int) ≤ (s.size : Int) - 1 := by omega
        have i1 : (s.size : Int) - 1 < s.size := by omega
        have i2 : 1 ≤ (s.size : Int) := by omega
        have HAA := Lib.hid ha
        clear ha
        go_wp2
        all_goals
          go_ret
          refine ⟨ret_bool ?_, hbel⟩
          unfold textB
          rw [HAA.out]
          have hlast : s.data.toList.getLast? = some s[s.size - 1] := by
            rw [List.getLast?_eq_getElem?, ← Lib.size_eq, Lib.data_getElem? s (s.size - 1) (by omega)]
          rw [hlast, ← int_beq10]
          try simp only [hl2]
          simp

theorem format_plain (c : UInt8) (w : World) : Calls Tryz.prog 69 #[.int .u8 (c.toNat : Nat)] w fun e w' => e = .returned (.bool (plc c)) ∧ w = w' := by
  have hb : c.toNat < 256 := c.toNat_lt
  have e : plc c = (decide (32 ≤ (c.toNat : Int)) && decide ((c.toNat : Int) ≤ 126) && ((c.toNat : Int) != 37) && ((c.toNat : Int) != 92) && ((c.toNat : Int) != 39)) := by
    unfold plc
    rw [Bool.eq_iff_iff]
    simp only [decide_eq_true_eq, Bool.and_eq_true, bne_iff_ne, ne_eq]
    omega
  have HE := Lib.hid e
  clear e
  go_enter Tryz.func69, Tryz.ntmps69
  go_wp2
  all_goals
    go_ret
    refine ⟨ret_bool ?_, rfl⟩
    rw [HE.out]
    simp [*]
    try (intros; omega)

set_option maxRecDepth 100000 in
set_option maxHeartbeats 1600000 in
theorem format_Escaped (s : ByteArray) (w : World) (hs : s.size ≤ 1000000) :
    Calls Tryz.prog 59 #[.string s] w fun e w' => e = .returned (.int .i64 (escN s.data.toList)) ∧ Below w.heap.size w w' := by
  have hcv := Lib.run_convert_string_bytes (P := Tryz.prog) w 9 91 5 s Tryz.underlying9 Tryz.underlying91 Tryz.underlying5
  have hbel := below_bytesWorld w.heap.size w 5 s (Nat.le_refl _)
  go_enter Tryz.func59, Tryz.ntmps59
  go_wp2
  go_loop [3, 11] (fun n i => ∃ (k q : Nat), k ≤ s.size ∧ i = .int .i64 k ∧ n = .int .i64 q ∧ q + k = s.size + escN (s.data.toList.take k)) (fun _ i => s.size - (intOf i).toNat)
  case atStart => exact ⟨0, s.size, Nat.zero_le _, rfl, rfl, rfl⟩
  case round =>
    obtain ⟨k, q, hk, rfl, rfl, hq⟩ := hrel
    have hb := (escN_le (s.data.toList.take k)).2
    have hl : (s.data.toList.take k).length ≤ k := List.length_take_le _ _
    have hqb : q ≤ 4000000 + s.size := by omega
    have HQ := Lib.hid hq
    clear hq hb hl
    by_cases hlt : k < s.size
    · have hcell := Lib.bytesWorld_cell w 5 s k hlt
      have hget := Lib.data_getElem? s k hlt
      obtain ⟨c, hc⟩ : ∃ c, c = s[k] := ⟨_, rfl⟩
      rw [← hc] at hget
      rw [show s.data.toList.getD k 0 = c by rw [List.getD_eq_getElem?_getD, hget]; rfl] at hcell
      have hsn : escN (s.data.toList.take (k + 1)) = escN (s.data.toList.take k) + if plc c then 1 else 4 := by
        rw [List.take_add_one, hget]; exact escN_snoc _ c
      have HG := Lib.hid hget; have HS := Lib.hid hsn; clear hget hc hsn
      cases hok : plc c
      all_goals
        have hpl := format_plain c
        rw [hok] at hpl
        have HO := Lib.hid hok; clear hok
        go_wp2_with (go_at_call 69; refine (hpl _).mono ?_; rintro e w' ⟨rfl, rfl⟩)
        go_round
        case rel => first | exact ⟨k + 1, q + 3, by omega, by go_num, by go_num, by have h1 := HQ.out; have h2 := HS.out; rw [HO.out] at h2; simp at h2; omega⟩ | exact ⟨k + 1, q, by omega, by go_num, rfl, by have h1 := HQ.out; have h2 := HS.out; rw [HO.out] at h2; simp at h2; omega⟩
        case measure => simp [intOf]; omega
    · go_wp2
      go_ret
      refine ⟨ret_int ?_, hbel⟩
      have h2 := HQ.out
      rw [List.take_of_length_le (by rw [← Lib.size_eq]; omega)] at h2
      omega

theorem uu_Encoded (n : Nat) (hn : n ≤ 1000000) (w : World) : Calls Tryz.prog 58 #[.int .i64 n] w fun e w' => e = .returned (.int .i64 (encN n)) ∧ w = w' := by
  have e : (encN n : Int) = (n : Int) / 45 * 62 + (if (n : Int) % 45 = 0 then 0 else ((n : Int) % 45 + 2) / 3 * 4 + 2) + 6 := by
    unfold encN
    split <;> split <;> omega
  have HE := Lib.hid e; clear e
  have h1 : (n : Int) % 45 < 45 := by omega
  have h2 : (0 : Int) ≤ (n : Int) / 45 := by omega
  have h3 : (n : Int) / 45 ≤ 1000000 := by omega
  by_cases h0 : (n : Int) % 45 = 0
  · have h0' : ¬ (0 : Int) < (n : Int) % 45 := by omega
    have H0 := Lib.hid h0; clear h0
    go_enter Tryz.func58, Tryz.ntmps58
    go_wp2
    go_ret
    refine ⟨ret_int ?_, rfl⟩
    rw [HE.out, if_pos H0.out]
    omega
  · have h0' : (0 : Int) < (n : Int) % 45 := by omega
    have H0 := Lib.hid h0; clear h0
    go_enter Tryz.func58, Tryz.ntmps58
    go_wp2
    go_ret
    refine ⟨ret_int ?_, rfl⟩
    rw [HE.out, if_neg H0.out]
    omega

set_option maxRecDepth 100000 in
set_option maxHeartbeats 1600000 in
theorem gain_Cost (way : Int) (s : ByteArray) (w : World) (h1 : 1 ≤ s.size) (hs : s.size ≤ 1000000) :
    Calls Tryz.prog 36 #[.int .i64 way, .string s] w fun e w' => e = .returned (.float .f64 (costW way s.data.toList)) ∧ Below w.heap.size w w' := by
  have hT := fun w => gain_Text s w (by omega)
  have hE := fun w => format_Escaped s w hs
  have hlen := Lib.size_eq s
  have hS1 := gain_Share s.size s.size (by omega) h1 (by omega)
  have hS2 := gain_Share (encN s.size) s.size (by have := encN_le s.size; omega) h1 (by omega)
  have hS3 := gain_Share (escN s.data.toList) s.size (by have := (escN_le s.data.toList).2; omega) h1 (by omega)
  have hU := uu_Encoded s.size hs
  by_cases e1 : way = 1
  · subst e1
    cases ht : textB s.data.toList with
    | true =>
      have e : costW 1 s.data.toList = shareW s.size s.size := by unfold costW; rw [if_pos rfl, if_pos ht, ← hlen]
      rw [e]; rw [ht] at hT
      clear e ht hlen hE
      go_enter Tryz.func36, Tryz.ntmps36
      go_wp2_with (first | (go_at_call 56; refine (math_Inf _).mono ?_; rintro e w' ⟨rfl, rfl⟩) | (go_at_call 35; refine (hT _).mono ?_; rintro e w1 ⟨rfl, hb⟩) | (go_at_call 57; refine (hS1 _).mono ?_; rintro e w' ⟨rfl, rfl⟩))
      go_ret
      exact ⟨rfl, hb⟩
    | false =>
      have e : costW 1 s.data.toList = INFW := by unfold costW; rw [if_pos rfl, if_neg (by simp [ht])]
      rw [e]; rw [ht] at hT
      clear e ht hlen hE
      go_enter Tryz.func36, Tryz.ntmps36
      go_wp2_with (first | (go_at_call 56; refine (math_Inf _).mono ?_; rintro e w' ⟨rfl, rfl⟩) | (go_at_call 35; refine (hT _).mono ?_; rintro e w1 ⟨rfl, hb⟩))
      go_ret
      exact ⟨rfl, hb⟩
  by_cases e2 : way = 2
  · subst e2
    have e : costW 2 s.data.toList = shareW (encN s.size) s.size := by unfold costW; rw [if_neg (by decide), if_pos rfl, ← hlen]
    rw [e]
    clear e hlen hE hT e1
    go_enter Tryz.func36, Tryz.ntmps36
    go_wp2_with (first | (go_at_call 56; refine (math_Inf _).mono ?_; rintro e w' ⟨rfl, rfl⟩) | (go_at_call 58; refine (hU _).mono ?_; rintro e w' ⟨rfl, rfl⟩) | (go_at_call 57; refine (hS2 _).mono ?_; rintro e w' ⟨rfl, rfl⟩))
    go_ret
    exact ⟨rfl, Below.refl _ _⟩
  by_cases e3 : way = 3
  · subst e3
    by_cases hl : s.size ≤ 256
    · have e : costW 3 s.data.toList = shareW (escN s.data.toList) s.size := by unfold costW; rw [if_neg (by decide), if_neg (by decide), if_pos rfl, ← hlen, if_pos hl]
      rw [e]
      clear e hlen hT e1 e2
      go_enter Tryz.func36, Tryz.ntmps36
      go_wp2_with (first | (go_at_call 56; refine (math_Inf _).mono ?_; rintro e w' ⟨rfl, rfl⟩) | (go_at_call 59; refine (hE _).mono ?_; rintro e w1 ⟨rfl, hb⟩) | (go_at_call 57; refine (hS3 _).mono ?_; rintro e w' ⟨rfl, rfl⟩))
      go_ret
      exact ⟨rfl, hb⟩
    · have e : costW 3 s.data.toList = INFW := by unfold costW; rw [if_neg (by decide), if_neg (by decide), if_pos rfl, ← hlen, if_neg hl]
      rw [e]
      have hl2 : (256 : Int) < s.size := by omega
      clear e hlen hT e1 e2 hl
      go_enter Tryz.func36, Tryz.ntmps36
      go_wp2_with (first | (go_at_call 56; refine (math_Inf _).mono ?_; rintro e w' ⟨rfl, rfl⟩))
      go_ret
      exact ⟨rfl, Below.refl _ _⟩
  have e : costW way s.data.toList = NANW := by unfold costW; rw [if_neg e1, if_neg e2, if_neg e3]
  rw [e]
  have f1 : (way == 1) = false := by simpa using e1
  have f2 : (way == 2) = false := by simpa using e2
  have f3 : (way == 3) = false := by simpa using e3
  clear e hlen hT hE e1 e2 e3
  go_enter Tryz.func36, Tryz.ntmps36
  go_wp2_with (first | (go_at_call 56; refine (math_Inf _).mono ?_; rintro e w' ⟨rfl, rfl⟩) | (go_at_call 60; refine (math_NaN _).mono ?_; rintro e w' ⟨rfl, rfl⟩))
  go_ret
  exact ⟨rfl, Below.refl _ _⟩
end Go.Proofs.YtomckoldfdeidaaGreatDoor

/- PLAIN WORDS: the first least key; the way that costs least. -/
namespace Go.Proofs.YtomckoldfdeidaaGreatDoor
open Go

def keyN (b : Nat) : Nat := if b ≤ INFW then b else INFW + 1
def IsMin (ks : List Nat) (i : Nat) : Prop := i < ks.length ∧ (∀ (j x y : Nat), ks[i]? = some x → ks[j]? = some y → keyN x ≤ keyN y) ∧ ∀ (j x y : Nat), j < i → ks[i]? = some x → ks[j]? = some y → keyN x < keyN y
def aminN (ks : List Nat) : Nat := ks.findIdx (fun x => ks.all (fun y => decide (keyN x ≤ keyN y)))

theorem isMin_amin {ks : List Nat} {i : Nat} (h : IsMin ks i) : aminN ks = i := by
  obtain ⟨h1, h2, h3⟩ := h
  have hx : ks[i]? = some ks[i] := List.getElem?_eq_getElem h1
  unfold aminN
  rw [List.findIdx_eq h1]
  refine ⟨?_, ?_⟩
  · rw [List.all_eq_true]
    intro y hy
    obtain ⟨j, hj⟩ := List.mem_iff_getElem?.1 hy
    exact decide_eq_true (h2 j _ y hx hj)
  · intro j hj
    rw [List.all_eq_false]
    refine ⟨ks[i], List.mem_of_getElem? hx, ?_⟩
    have := h3 j _ _ hj hx (List.getElem?_eq_getElem (by omega))
    simp only [decide_eq_true_eq]
    omega

theorem isMin_first {ks : List Nat} (h : 0 < ks.length) : IsMin (ks.take 1) 0 := by
  refine ⟨by simp; omega, ?_, fun j x y hj => by omega⟩
  intro j x y hx hy
  have : j = 0 := by
    have := (List.getElem?_eq_some_iff.1 hy).1
    simp at this; omega
  subst this; rw [hx] at hy; cases hy; exact Nat.le_refl _

/-- One key more: it is the first least one, or what was least stays. -/
theorem isMin_step {ks : List Nat} {k i : Nat} {x y : Nat} (h : IsMin (ks.take k) i) (hk : ks[k]? = some x) (hi : ks[i]? = some y) :
    (keyN x < keyN y → IsMin (ks.take (k + 1)) k) ∧ (¬ keyN x < keyN y → IsMin (ks.take (k + 1)) i) := by
  have hlt : k < ks.length := (List.getElem?_eq_some_iff.1 hk).1
  have hlen : (ks.take k).length = k := by rw [List.length_take]; omega
  have hlen1 : (ks.take (k + 1)).length = k + 1 := by rw [List.length_take]; omega
  obtain ⟨h1, h2, h3⟩ := h
  rw [hlen] at h1
  have hik : (ks.take k)[i]? = some y := by rw [List.getElem?_take_of_lt h1]; exact hi
  have g : ∀ j z, (ks.take (k + 1))[j]? = some z → (j = k ∧ z = x) ∨ (j < k ∧ (ks.take k)[j]? = some z) := by
    intro j z hz
    have hj := (List.getElem?_eq_some_iff.1 hz).1
    rw [hlen1] at hj
    rw [List.getElem?_take_of_lt hj] at hz
    rcases Nat.lt_or_ge j k with q | q
    · right; exact ⟨q, by rw [List.getElem?_take_of_lt q]; exact hz⟩
    · left; have : j = k := by omega
      subst this; rw [hk] at hz; cases hz; exact ⟨rfl, rfl⟩
  constructor
  · intro hlt2
    refine ⟨by omega, ?_, ?_⟩
    · intro j a b ha hb
      rcases g k a ha with ⟨_, rfl⟩ | ⟨q, _⟩
      · rcases g j b hb with ⟨_, rfl⟩ | ⟨_, q⟩
        · exact Nat.le_refl _
        · have := h2 j y b hik q; omega
      · omega
    · intro j a b hj ha hb
      rcases g k a ha with ⟨_, rfl⟩ | ⟨q, _⟩
      · rcases g j b hb with ⟨q, _⟩ | ⟨_, q⟩
        · omega
        · have := h2 j y b hik q; omega
      · omega
  · intro hge
    refine ⟨by omega, ?_, ?_⟩
    · intro j a b ha hb
      rcases g i a ha with ⟨q, _⟩ | ⟨_, q⟩
      · omega
      · rw [hik] at q; cases q
        rcases g j b hb with ⟨_, rfl⟩ | ⟨_, q⟩
        · omega
        · exact h2 j y b hik q
    · intro j a b hj ha hb
      rcases g i a ha with ⟨q, _⟩ | ⟨_, q⟩
      · omega
      · rw [hik] at q; cases q
        rcases g j b hb with ⟨q, _⟩ | ⟨_, q⟩
        · omega
        · exact h3 j y b hj hik q

/-- The way that costs least, of some: the way, an error. -/
def bestE (l : List UInt8) (ways : List Int) : Int × Int :=
  if ways = [] then (0, 12)
  else if INFW ≤ (ways.map fun w => costW w l).getD (aminN (ways.map fun w => costW w l)) 0 then (0, 43)
  else (ways.getD (aminN (ways.map fun w => costW w l)) 0, 0)

theorem amin_is {ks : List Nat} (h : ks ≠ []) : IsMin ks (aminN ks) := by
  have : ∀ (k : Nat), 1 ≤ k → k ≤ ks.length → ∃ i, IsMin (ks.take k) i := by
    intro k hk
    induction k with
    | zero => omega
    | succ k ih =>
      intro hle
      rcases Nat.eq_zero_or_pos k with rfl | hp
      · exact ⟨0, isMin_first (by omega)⟩
      · obtain ⟨i, hi⟩ := ih hp (by omega)
        have h1 := hi.1
        rw [List.length_take] at h1
        have hkx : ks[k]? = some ks[k] := List.getElem?_eq_getElem (by omega)
        have hiy : ks[i]? = some ks[i] := List.getElem?_eq_getElem (by omega)
        obtain ⟨a, b⟩ := isMin_step hi hkx hiy
        by_cases q : keyN ks[k] < keyN ks[i]
        · exact ⟨k, a q⟩
        · exact ⟨i, b q⟩
  have hl : 0 < ks.length := by cases ks with | nil => exact absurd rfl h | cons a b => simp
  obtain ⟨i, hi⟩ := this ks.length (by omega) (Nat.le_refl _)
  rw [List.take_length] at hi
  rw [isMin_amin hi]
  exact hi
end Go.Proofs.YtomckoldfdeidaaGreatDoor

/- package gain: Least, Best. -/
namespace Go.Proofs.YtomckoldfdeidaaGreatDoor
open Go.RowKit

theorem Wd_cost (way : Int) (l : List UInt8) (h1 : 1 ≤ l.length) (h2 : l.length ≤ 1000000) : Wd (costW way l) := by
  unfold costW
  split
  · split
    · exact .inl (share_word _ _ (by omega) h1 (by omega)).2
    · exact .inl (Nat.le_refl _)
  · split
    · exact .inl (share_word _ _ (by have := encN_le l.length; omega) h1 (by omega)).2
    · split
      · split
        · exact .inl (share_word _ _ (by have := (escN_le l).2; omega) h1 (by omega)).2
        · exact .inl (Nat.le_refl _)
      · exact .inr rfl

set_option maxRecDepth 100000 in
set_option maxHeartbeats 1600000 in
theorem gain_Least (ks : List Nat) (ad : Addr) (c : Nat) (w : World) (h0 : 0 < ks.length) (hl : ks.length ≤ 1000000) (hw : ∀ b ∈ ks, Wd b) (hc : ∀ i b, ks[i]? = some b → w.cell? (ad.add i) = some (.float .f64 b)) :
    Calls Tryz.prog 37 #[.slice (some ad) ks.length c] w fun e w' => e = .returned (.int .i64 (aminN ks)) ∧ w = w' := by
  have HC := Lib.hid hc; clear hc
  have HW := Lib.hid hw; clear hw
  go_enter Tryz.func37, Tryz.ntmps37
  go_wp2
  go_loop [3, 8] (fun b i => ∃ k : Nat, k ≤ ks.length ∧ i = .int .i64 k ∧ ((k = 0 ∧ b = .int .i64 (-1)) ∨ ∃ m : Nat, b = .int .i64 m ∧ m < k ∧ IsMin (ks.take k) m)) (fun _ i => ks.length - (intOf i).toNat)
  case atStart => exact ⟨0, Nat.zero_le _, rfl, .inl ⟨rfl, rfl⟩⟩
  case round =>
    obtain ⟨k, hk, rfl, hb⟩ := hrel
    by_cases hlt : k < ks.length
    · obtain ⟨x, hx⟩ : ∃ x, ks[k]? = some x := ⟨_, List.getElem?_eq_getElem hlt⟩
      have hcx := HC.out k x hx
      rcases hb with ⟨rfl, rfl⟩ | ⟨m, rfl, hm, hmin⟩
      · have hc0 : w.cell? ad = some (.float .f64 x) := by have e : ad.add 0 = ad := by cases ad; simp [Addr.add]
                                                           rw [← e]; exact hcx
        go_wp2
        go_round
        case rel => exact ⟨1, by omega, rfl, .inr ⟨0, rfl, by omega, isMin_first h0⟩⟩
        case measure => simp [intOf]; omega
      · obtain ⟨y, hy⟩ : ∃ y, ks[m]? = some y := ⟨_, List.getElem?_eq_getElem (by omega)⟩
        have hcy := HC.out m y hy
        have hL := gain_Less x y (HW.out x (List.mem_of_getElem? hx)) (HW.out y (List.mem_of_getElem? hy))
        have hst := isMin_step hmin hx hy
        have HS := Lib.hid hst; have HY := Lib.hid hy
        clear hst hmin hx hy
        cases hlt2 : decide (keyW x < keyW y) with
        | true =>
          rw [hlt2] at hL
          have H2 := Lib.hid (of_decide_eq_true hlt2); clear hlt2
          go_wp2_with (go_at_call 61; (with_reducible refine (hL _).mono ?_); rintro e w' ⟨rfl, rfl⟩)
          go_round
          case rel => exact ⟨k + 1, by omega, by go_num, .inr ⟨k, rfl, by omega, HS.out.1 H2.out⟩⟩
          case measure => simp [intOf]; omega
        | false =>
          rw [hlt2] at hL
          have H2 := Lib.hid (of_decide_eq_false hlt2); clear hlt2
          go_wp2_with (go_at_call 61; (with_reducible refine (hL _).mono ?_); rintro e w' ⟨rfl, rfl⟩)
          go_round
          case rel => exact ⟨k + 1, by omega, by go_num, .inr ⟨m, rfl, by omega, HS.out.2 H2.out⟩⟩
          case measure => simp [intOf]; omega
    · have e : k = ks.length := by omega
      rcases hb with ⟨rfl, rfl⟩ | ⟨m, rfl, hm, hmin⟩
      · omega
      · have HM := Lib.hid hmin; clear hmin
        go_wp2
        go_ret
        refine ⟨ret_int ?_, rfl⟩
        have h2 := HM.out
        rw [e, List.take_length] at h2
        rw [isMin_amin h2]
end Go.Proofs.YtomckoldfdeidaaGreatDoor

/- package gain: Best. -/
namespace Go.Proofs.YtomckoldfdeidaaGreatDoor
open Go.RowKit

theorem infoFloat : (Tryz.prog.info? 71).map (fun i => (i.zero, i.size, i.bytes)) = some (some (.float .f64 0), 1, 8) := by kernel_rfl

def IntsAt (w : World) (A : Option Addr) (xs : List Int) : Prop := ∀ i x, xs[i]? = some x → ∃ a, A = some a ∧ w.cell? (a.add i) = some (.int .i64 x)
theorem IntsAt.below {B : Nat} {w w' : World} {A : Option Addr} {xs : List Int} (h : IntsAt w A xs) (hB : w.heap.size ≤ B) (hb : Below B w w') : IntsAt w' A xs := by
  intro i x hx
  obtain ⟨a, ha, hc⟩ := h i x hx
  exact ⟨a, ha, (hb.cell (by have := World.block_lt_of_cell? w _ hc; omega)).trans hc⟩

theorem own_cells {w : World} {base : Nat} {e : TypeId} {size n g cap : Nat} {xs : List Value} (h : w.ownsRow base e size (.slice (some ⟨g, 0, none⟩) n cap) n xs) {j : Nat} {u : Value} (hj : xs[j]? = some u) : w.cell? ⟨g, j, none⟩ = some u := by
  have := h.cells (g := g) rfl j u hj
  rwa [show (⟨g, 0, none⟩ : Addr).add j = ⟨g, j, none⟩ by unfold Addr.add; split <;> simp_all] at this

theorem own_below {w w1 : World} {base : Nat} {e : TypeId} {size n : Nat} {v : Value} {xs : List Value} (h : w.ownsRow base e size v n xs) (hb : Below w.heap.size w w1) : w1.ownsRow base e size v n xs :=
  h.kept (row := none) ⟨hb.os, hb.tape, hb.output, hb.size, fun i hi _ => hb.block i hi⟩ (by by_cases q : v.ownBlock = none; exact .inl q; exact .inr q)

def costs (l : List UInt8) (ways : List Int) : List Nat := ways.map fun y => costW y l
def costVs (l : List UInt8) (ways : List Int) : List Value := (costs l ways).map (Value.float .f64)

set_option maxRecDepth 100000 in
set_option maxHeartbeats 3200000 in
theorem gain_Best (s : ByteArray) (ways : List Int) (A : Option Addr) (c : Nat) (w : World) (h0 : ways ≠ []) (hl : ways.length ≤ 1000000) (h1 : 1 ≤ s.size) (hs : s.size ≤ 1000000) (hc : IntsAt w A ways) :
    Calls Tryz.prog 22 #[.string s, .slice A ways.length c] w fun e w' => e = .returned (.tuple #[.int .i64 (bestE s.data.toList ways).1, .int .i64 (bestE s.data.toList ways).2]) ∧ Below w.heap.size w w' := by
  obtain ⟨i0, hi, hz0, hz1, hz2⟩ := info_parts infoFloat
  have hsl : 1 ≤ s.data.toList.length ∧ s.data.toList.length ≤ 1000000 := by rw [← Lib.size_eq]; exact ⟨h1, hs⟩
  have hne : s.toList.isEmpty = false := by
    rw [Lib.toList_data]; cases hq : s.data.toList with
    | nil => rw [hq] at hsl; simp at hsl
    | cons a b => rfl
  have H0 := Lib.hid h0; have HC := Lib.hid hc; have HSL := Lib.hid hsl
  clear h0 hc hsl
  go_enter Tryz.func22, Tryz.ntmps22
  go_wp2
  go_loopw [6, 12] (fun v i wr => ∃ k : Nat, k ≤ ways.length ∧ i = .int .i64 k ∧ wr.ownsRow w.heap.size 71 1 v k (costVs s.data.toList (ways.take k)) ∧ Below w.heap.size w wr) (fun _ i _ => ways.length - (intOf i).toNat)
  case atStart => exact ⟨0, Nat.zero_le _, rfl, ⟨by simp [costVs, costs], .inl ⟨rfl, rfl⟩⟩, Below.refl _ _⟩
  case round =>
    obtain ⟨k, hk, rfl, hown, hbw⟩ := hrel
    have hszw := hbw.size
    by_cases hlt : k < ways.length
    · obtain ⟨y, hy⟩ : ∃ y, ways[k]? = some y := ⟨_, List.getElem?_eq_getElem hlt⟩
      obtain ⟨a, rfl, hcy⟩ := (HC.out.below (Nat.le_refl _) hbw) k y hy
      have hcost := gain_Cost y s wr h1 hs
      obtain ⟨q, hq⟩ : ∃ q, q = costW y s.data.toList := ⟨_, rfl⟩
      rw [← hq] at hcost
      have hsn : costVs s.data.toList (ways.take (k + 1)) = costVs s.data.toList (ways.take k) ++ [.float .f64 q] := by
        unfold costVs costs; rw [List.take_add_one, hy, hq]; simp
      have HS := Lib.hid hsn; have HB := Lib.hid hbw
      clear hsn hq hy hbw
      go_wp2_with (go_at_call 36; refine hcost.mono ?_)
      rintro e w1 ⟨rfl, hb1⟩
      have hown1 := own_below hown hb1
      have hzb := hb1.size
      go_wp2_with (at_builtin; refine wpList_append_lies _ rfl _ _ 70 rfl w.heap.size 71 i0 (.float .f64 0) 1 8 Tryz.underlying70 hi hz0 hz1 hz2 rfl (by decide) _ _ _ rfl (hown1.alloc _) ⟨w1.heap.size, 0, none⟩ 1 1 [.float .f64 q] rfl rfl ?c1 ?c2 (by decide) ?c3 ?c4 ?c5 _ rfl ?_)
      case c1 => intro j u hj; match j, hj with | 0, hj => simp at hj; subst hj; simp [Addr.add]
      case c2 => intro u hu; simp at hu; subst hu; rfl
      case c3 => unfold maxLen; omega
      case c4 => omega
      case c5 => simp; omega
      intro g cap w2 hown2 hgrow hat hlt2
      have hb2 : Below w.heap.size w w2 := ((HB.out.trans (hb1.mono hszw)).alloc (by omega) _).grown hgrow (by simp; omega) (fun k hk => (hown1.lt k hk).1)
      rw [← HS.out] at hown2
      have HO := Lib.hid hown2; have HB2 := Lib.hid hb2
      clear hown2 hb2 hat hgrow hown hown1 hb1
      go_wp2
      go_roundw
      case rel => exact ⟨k + 1, by omega, by go_num, HO.out, HB2.out⟩
      case measure => simp [intOf]; omega
    · have e : k = ways.length := by omega
      rw [e, List.take_length] at hown
      have hcl : (costs s.data.toList ways).length = ways.length := by simp [costs]
      have hwne : 0 < ways.length := by
        cases hq : ways with
        | nil => exact absurd hq H0.out
        | cons a b => simp
      obtain ⟨g, cap, cur, rfl, _⟩ := hown.2.resolve_left (by rintro ⟨_, b⟩; omega)
      have hcells : ∀ i b, (costs s.data.toList ways)[i]? = some b → wr.cell? ((⟨g, 0, none⟩ : Addr).add i) = some (.float .f64 b) := by
        intro i b hb
        exact hown.cells (g := g) rfl i _ (by unfold costVs; rw [List.getElem?_map, hb]; rfl)
      have hwd : ∀ b ∈ costs s.data.toList ways, Wd b := by
        intro b hb
        obtain ⟨y, _, rfl⟩ := List.mem_map.1 hb
        exact Wd_cost y _ HSL.out.1 HSL.out.2
      have hleast := gain_Least (costs s.data.toList ways) ⟨g, 0, none⟩ cap wr (by omega) (by omega) hwd hcells
      have hmin := amin_is (ks := costs s.data.toList ways) (by intro q; rw [q] at hcl; simp at hcl; omega)
      obtain ⟨m, hm⟩ : ∃ m, m = aminN (costs s.data.toList ways) := ⟨_, rfl⟩
      rw [← hm] at hmin hleast
      have hmlt : m < ways.length := by have := hmin.1; omega
      obtain ⟨q, hq⟩ : ∃ q, (costs s.data.toList ways)[m]? = some q := ⟨_, List.getElem?_eq_getElem (by omega)⟩
      obtain ⟨y, hy⟩ : ∃ y, ways[m]? = some y := ⟨_, List.getElem?_eq_getElem hmlt⟩
      have hcq : wr.cell? ⟨g, m, none⟩ = some (.float .f64 q) := own_cells hown (by unfold costVs; rw [List.getElem?_map, hq]; rfl)
      obtain ⟨a, rfl, hcy⟩ := (HC.out.below (Nat.le_refl _) hbw) m y hy
      have hwq := hwd q (List.mem_of_getElem? hq)
      have hInf := math_IsInf q hwq
      have hNaN := math_IsNaN q hwq
      rw [hcl] at hleast
      have ebest : bestE s.data.toList ways = if INFW ≤ q then (0, 43) else (y, 0) := by
        unfold bestE
        rw [if_neg H0.out]
        change (if INFW ≤ (costs s.data.toList ways).getD (aminN (costs s.data.toList ways)) 0 then ((0 : Int), (43 : Int)) else (ways.getD (aminN (costs s.data.toList ways)) 0, 0)) = _
        rw [← hm, List.getD_eq_getElem?_getD, hq, List.getD_eq_getElem?_getD, hy]
        rfl
      have EB := Lib.hid ebest; have HB := Lib.hid hbw
      clear hcells hwd hmin hm hq hy hown hcl ebest hbw hwq
      by_cases hbig : INFW ≤ q
      · have e1 : bestE s.data.toList ways = (0, 43) := by rw [EB.out, if_pos hbig]
        have E1 := Lib.hid e1
        by_cases hinf : q = INFW
        · have d1 : decide (q = INFW) = true := decide_eq_true hinf
          have d2 : decide (INFW < q) = false := decide_eq_false (by omega)
          rw [d1] at hInf; rw [d2] at hNaN
          clear hinf hbig d1 d2 e1 
          go_wp2_with (first | (go_at_call 37; (with_reducible refine hleast.mono ?_); rintro e w' ⟨rfl, rfl⟩) | (go_at_call 38; (with_reducible refine (hInf _).mono ?_); rintro e w' ⟨rfl, rfl⟩) | (go_at_call 39; (with_reducible refine (hNaN _).mono ?_); rintro e w' ⟨rfl, rfl⟩))
          go_ret2
          rw [E1.out]
          exact ⟨rfl, HB.out⟩
        · have d1 : decide (q = INFW) = false := decide_eq_false hinf
          have d2 : decide (INFW < q) = true := decide_eq_true (by omega)
          rw [d1] at hInf; rw [d2] at hNaN
          clear hinf hbig d1 d2 e1 
          go_wp2_with (first | (go_at_call 37; (with_reducible refine hleast.mono ?_); rintro e w' ⟨rfl, rfl⟩) | (go_at_call 38; (with_reducible refine (hInf _).mono ?_); rintro e w' ⟨rfl, rfl⟩) | (go_at_call 39; (with_reducible refine (hNaN _).mono ?_); rintro e w' ⟨rfl, rfl⟩))
          go_ret2
          rw [E1.out]
          exact ⟨rfl, HB.out⟩
      · have e1 : bestE s.data.toList ways = (y, 0) := by rw [EB.out, if_neg hbig]
        have E1 := Lib.hid e1
        have d1 : decide (q = INFW) = false := decide_eq_false (by omega)
        have d2 : decide (INFW < q) = false := decide_eq_false (by omega)
        rw [d1] at hInf; rw [d2] at hNaN
        clear hbig d1 d2 e1 
        go_wp2_with (first | (go_at_call 37; (with_reducible refine hleast.mono ?_); rintro e w' ⟨rfl, rfl⟩) | (go_at_call 38; (with_reducible refine (hInf _).mono ?_); rintro e w' ⟨rfl, rfl⟩) | (go_at_call 39; (with_reducible refine (hNaN _).mono ?_); rintro e w' ⟨rfl, rfl⟩))
        go_ret2
        rw [E1.out]
        exact ⟨rfl, HB.out⟩
end Go.Proofs.YtomckoldfdeidaaGreatDoor

/- strings.Builder as this program's translation has it (the panic of copyCheck is refused by the loader there): copyCheck, WriteByte, WriteString, Write. -/
namespace Go.Proofs.YtomckoldfdeidaaGreatDoor
open Go.RowKit

theorem infoByte : (Tryz.prog.info? 5).map (fun i => (i.zero, i.size, i.bytes)) = some (some (.int .u8 0), 1, 1) := by kernel_rfl
theorem sizeBuilder : (Tryz.prog.info? 99).map (·.size) = some 2 := by kernel_rfl
theorem liesBuilder : liesAt Tryz.prog Tryz.prog.depth 99 (2 / Tryz.prog.cellsOf 99) 0 99 1 = true := by kernel_rfl

set_option maxHeartbeats 1000000 in
set_option maxRecDepth 100000 in
theorem bld_check_used (b : Nat) (w : World) (h0 : w.cell? ⟨b, 0, none⟩ = some (.pointer (some ⟨b, 0, none⟩))) :
    Calls Tryz.prog 80 #[.pointer (some ⟨b, 0, none⟩)] w fun e w' => e = .returned (.tuple #[]) ∧ w' = w := by
  obtain ⟨j, hj, _⟩ := Option.map_eq_some_iff.1 sizeBuilder
  go_enter Tryz.func80, Tryz.ntmps80
  go_wp2
  rw [Lib.run_neq_ptr_same w _ Tryz.underlying97 hj]
  go_wp2
  go_end0
  exact ⟨rfl, rfl⟩

set_option maxHeartbeats 1000000 in
set_option maxRecDepth 100000 in
theorem bld_check_fresh (b : Nat) (w : World) (h0 : w.cell? ⟨b, 0, none⟩ = some (.pointer none)) (hsh : w.shape? b = some (99, 2)) (hfz : w.frozen? ⟨b, 0, none⟩ = false) :
    Calls Tryz.prog 80 #[.pointer (some ⟨b, 0, none⟩)] w fun e w' => e = .returned (.tuple #[]) ∧ w' = w.setCell ⟨b, 0, none⟩ (.pointer (some ⟨b, 0, none⟩)) := by
  obtain ⟨j, hj, hjs⟩ := Option.map_eq_some_iff.1 sizeBuilder
  go_enter Tryz.func80, Tryz.ntmps80
  go_wp2
  rw [Lib.run_to_unsafe w ⟨b, 0, none⟩ Tryz.underlying97 Tryz.underlying126 hj (by rw [hjs]; decide) hsh (Nat.zero_lt_succ 1)]
  simp only [Result.andThen]
  rw [Oper.upon_value]
  go_wp2
  rw [run_callFunc_extern Tryz.func89 (by kernel_rfl) (by kernel_rfl) (by kernel_rfl) (e := Extern.AbiNoEscape.same) (by kernel_rfl)]
  rw [Lib.run_noEscape]
  simp only [Result.andThen]
  rw [Oper.upon_value]
  go_wp2
  rw [Lib.run_from_unsafe w ⟨b, 0, none⟩ Tryz.underlying126 Tryz.underlying97 hj hsh liesBuilder]
  simp only [Result.andThen]
  rw [Oper.upon_value]
  go_wp2
  go_end0
  exact ⟨rfl, rfl⟩

theorem bld_copyCheck (B b : Nat) (bs : List Value) (w : World) (h : Lib.IsBuilder 99 5 B b bs w) :
    Calls Tryz.prog 80 #[.pointer (some ⟨b, 0, none⟩)] w fun e w' => e = .returned (.tuple #[]) ∧ (Lib.BuilderAt 99 5 B b (.pointer (some ⟨b, 0, none⟩)) bs w' ∧ Below B w w') := by
  rcases h with h | h
  · refine (bld_check_fresh b w h.cell0 h.shape h.frozen0).mono ?_
    rintro e w' ⟨rfl, rfl⟩
    exact ⟨rfl, h.used _, (Below.refl B w).setCell (p := ⟨b, 0, none⟩) h.1 _⟩
  · refine (bld_check_used b w h.cell0).mono ?_
    rintro e w' ⟨rfl, rfl⟩
    exact ⟨rfl, h, Below.refl B _⟩

set_option maxHeartbeats 2000000 in
set_option maxRecDepth 100000 in
theorem bld_WriteByte (B b : Nat) (bs : List Value) (c : Int) (w : World) (h : Lib.IsBuilder 99 5 B b bs w) (hlen : bs.length + 1 ≤ 140737488355328) (hBw : B ≤ w.heap.size) :
    Calls Tryz.prog 70 #[.pointer (some ⟨b, 0, none⟩), .int .u8 c] w fun e w' => e = .returned .nilIface ∧ (Lib.BuilderAt 99 5 B b (.pointer (some ⟨b, 0, none⟩)) (bs ++ [.int .u8 c]) w' ∧ Below B w w') := by
  obtain ⟨i0, hi, hz0, hz1, hz2⟩ := info_parts infoByte
  go_enter Tryz.func70, Tryz.ntmps70
  go_wp2_with (go_at_call 80; refine (bld_copyCheck B b bs _ h).mono ?_)
  rintro e w1 ⟨rfl, h1, hb1⟩
  obtain ⟨hB, v, hbk, hown, hne⟩ := h1
  have c0 : w1.cell? ⟨b, 0, none⟩ = some (.pointer (some ⟨b, 0, none⟩)) := by rw [Lib.cell_of_heap hbk]; rfl
  have c1 : w1.cell? ⟨b, 1, none⟩ = some v := by rw [Lib.cell_of_heap hbk]; rfl
  go_wp2_with (at_builtin; refine wpList_append_own _ rfl _ _ 91 rfl B 5 i0 (.int .u8 0) 1 1 Tryz.underlying91 hi hz0 hz1 hz2 rfl (by decide) _ _ _ rfl (hown.alloc _) ⟨w1.heap.size, 0, none⟩ 1 1 [.int .u8 c] rfl rfl ?c1 ?c2 ?c3 ?c4 ?c5 ?_)
  case c1 =>
    intro j u hj
    match j, hj with
    | 0, hj => simp at hj; subst hj; simp [Addr.add]
  case c2 => intro u hu; simp at hu; subst hu; rfl
  case c3 => unfold maxLen; omega
  case c4 => omega
  case c5 => have := hb1.size; simp; omega
  intro v' w2 hown' hgrow _
  have hlt : b < w1.heap.size := by
    rcases Nat.lt_or_ge b w1.heap.size with h' | h'
    · exact h'
    · simp [Array.getElem?_eq_none h'] at hbk
  have hb2 : w2.heap[b]? = some (.cells #[.pointer (some ⟨b, 0, none⟩), v] 99 (0, 0)) := by
    rw [hgrow.block b (by simp; omega) (fun e => hne e.symm), Lib.alloc_old w1 _ b hlt]
    exact hbk
  have d0 : w2.cell? ⟨b, 0, none⟩ = some (.pointer (some ⟨b, 0, none⟩)) := by rw [Lib.cell_of_heap hb2]; rfl
  have d1 : w2.cell? ⟨b, 1, none⟩ = some v := by rw [Lib.cell_of_heap hb2]; rfl
  have f1 : w2.frozen? ⟨b, 1, none⟩ = false := Lib.frozen_of_heap hb2 1
  obtain ⟨g, cap, rfl⟩ : ∃ g cap, v' = .slice (some ⟨g, 0, none⟩) (bs.length + 1) cap := by
    rcases hown'.2 with ⟨_, h0⟩ | ⟨g, cap, cur, hv, _⟩
    · omega
    · exact ⟨g, cap, hv⟩
  go_wp2
  go_ret
  refine ⟨rfl, ?_, ?_⟩
  · exact Lib.BuilderAt.put (T := 99) (e := 5) hB hb2 (bs' := bs ++ [.int .u8 c]) (by simpa using hown') (by decide)
  · exact ((hb1.alloc (by have := hb1.size; omega) _).grown hgrow (by have := hb1.size; simp; omega) (fun k hk => (hown.lt k hk).1)).setCell (p := ⟨b, 1, none⟩) hB _

set_option maxHeartbeats 2000000 in
set_option maxRecDepth 100000 in
theorem bld_WriteString (B b : Nat) (bs : List Value) (s : ByteArray) (w : World) (h : Lib.IsBuilder 99 5 B b bs w) (hlen : bs.length + s.size ≤ 140737488355328) (hBw : B ≤ w.heap.size) :
    Calls Tryz.prog 65 #[.pointer (some ⟨b, 0, none⟩), .string s] w fun e w' => e = .returned (.tuple #[.int .i64 s.size, .nilIface]) ∧ (Lib.BuilderAt 99 5 B b (.pointer (some ⟨b, 0, none⟩)) (bs ++ Lib.strCells s) w' ∧ Below B w w') := by
  obtain ⟨i0, hi, hz0, hz1, hz2⟩ := info_parts infoByte
  go_enter Tryz.func65, Tryz.ntmps65
  go_wp2_with (go_at_call 80; refine (bld_copyCheck B b bs _ h).mono ?_)
  rintro e w1 ⟨rfl, h1, hb1⟩
  obtain ⟨hB, v, hbk, hown, hne⟩ := h1
  have c0 : w1.cell? ⟨b, 0, none⟩ = some (.pointer (some ⟨b, 0, none⟩)) := by rw [Lib.cell_of_heap hbk]; rfl
  have c1 : w1.cell? ⟨b, 1, none⟩ = some v := by rw [Lib.cell_of_heap hbk]; rfl
  go_wp2_with (at_builtin; refine Lib.wpList_append_own_string _ rfl _ _ 91 9 rfl B 5 i0 Tryz.underlying91 Tryz.underlying9 hi hz0 hz1 hz2 _ _ _ rfl hown s rfl ?c3 ?c4 ?c5 ?_)
  case c3 => unfold maxLen; omega
  case c4 => omega
  case c5 => have := hb1.size; omega
  intro v' w2 hown' hgrow _
  have hlt : b < w1.heap.size := by
    rcases Nat.lt_or_ge b w1.heap.size with h' | h'
    · exact h'
    · simp [Array.getElem?_eq_none h'] at hbk
  have hb2 : w2.heap[b]? = some (.cells #[.pointer (some ⟨b, 0, none⟩), v] 99 (0, 0)) := by
    rw [hgrow.block b hlt (fun e => hne e.symm)]
    exact hbk
  have d0 : w2.cell? ⟨b, 0, none⟩ = some (.pointer (some ⟨b, 0, none⟩)) := by rw [Lib.cell_of_heap hb2]; rfl
  have d1 : w2.cell? ⟨b, 1, none⟩ = some v := by rw [Lib.cell_of_heap hb2]; rfl
  have f1 : w2.frozen? ⟨b, 1, none⟩ = false := Lib.frozen_of_heap hb2 1
  obtain ⟨ao, n', cap, rfl⟩ : ∃ ao n' cap, v' = .slice ao n' cap := by
    rcases hown'.2 with ⟨hv, _⟩ | ⟨g, cap, cur, hv, _⟩
    · exact ⟨_, _, _, hv⟩
    · exact ⟨_, _, _, hv⟩
  go_wp2
  go_ret2
  refine ⟨rfl, ?_, ?_⟩
  · exact Lib.BuilderAt.put (T := 99) (e := 5) hB hb2 (bs' := bs ++ Lib.strCells s) (by simpa [Lib.strCells_length] using hown') (by decide)
  · exact (hb1.grown hgrow (by have := hb1.size; omega) (fun k hk => (hown.lt k hk).1)).setCell (p := ⟨b, 1, none⟩) hB _

set_option maxHeartbeats 2000000 in
set_option maxRecDepth 100000 in
/-- Write of a row of bytes that lies elsewhere: its cells are known. -/
theorem bld_Write (B b : Nat) (bs news : List Value) (A : Addr) (m : Nat) (w : World) (h : Lib.IsBuilder 99 5 B b bs w) (hm : news.length = m) (h0 : 0 < m)
    (hnews : ∀ (j : Nat) (u : Value), news[j]? = some u → ∀ w' : World, Below B w w' → w'.cell? (A.add j) = some u) (hone : ∀ u ∈ news, u.oneCell' = true)
    (hlen : bs.length + m ≤ 140737488355328) (hBw : B ≤ w.heap.size) :
    Calls Tryz.prog 71 #[.pointer (some ⟨b, 0, none⟩), .slice (some A) m m] w fun e w' => e = .returned (.tuple #[.int .i64 m, .nilIface]) ∧ (Lib.BuilderAt 99 5 B b (.pointer (some ⟨b, 0, none⟩)) (bs ++ news) w' ∧ Below B w w') := by
  obtain ⟨i0, hi, hz0, hz1, hz2⟩ := info_parts infoByte
  go_enter Tryz.func71, Tryz.ntmps71
  go_wp2_with (go_at_call 80; refine (bld_copyCheck B b bs _ h).mono ?_)
  rintro e w1 ⟨rfl, h1, hb1⟩
  obtain ⟨hB, v, hbk, hown, hne⟩ := h1
  have c0 : w1.cell? ⟨b, 0, none⟩ = some (.pointer (some ⟨b, 0, none⟩)) := by rw [Lib.cell_of_heap hbk]; rfl
  have c1 : w1.cell? ⟨b, 1, none⟩ = some v := by rw [Lib.cell_of_heap hbk]; rfl
  go_wp2_with (at_builtin; refine wpList_append_own _ rfl _ _ 91 rfl B 5 i0 (.int .u8 0) 1 1 Tryz.underlying91 hi hz0 hz1 hz2 rfl (by decide) _ _ _ rfl hown A m m news rfl (by omega) ?c1 ?c2 ?c3 ?c4 ?c5 ?_)
  case c1 => exact fun j u hj => hnews j u hj w1 hb1
  case c2 => exact hone
  case c3 => unfold maxLen; omega
  case c4 => omega
  case c5 => have := hb1.size; omega
  intro v' w2 hown' hgrow _
  have hlt : b < w1.heap.size := by
    rcases Nat.lt_or_ge b w1.heap.size with h' | h'
    · exact h'
    · simp [Array.getElem?_eq_none h'] at hbk
  have hb2 : w2.heap[b]? = some (.cells #[.pointer (some ⟨b, 0, none⟩), v] 99 (0, 0)) := by
    rw [hgrow.block b hlt (fun e => hne e.symm)]
    exact hbk
  have d0 : w2.cell? ⟨b, 0, none⟩ = some (.pointer (some ⟨b, 0, none⟩)) := by rw [Lib.cell_of_heap hb2]; rfl
  have d1 : w2.cell? ⟨b, 1, none⟩ = some v := by rw [Lib.cell_of_heap hb2]; rfl
  have f1 : w2.frozen? ⟨b, 1, none⟩ = false := Lib.frozen_of_heap hb2 1
  obtain ⟨g, cap, rfl⟩ : ∃ g cap, v' = .slice (some ⟨g, 0, none⟩) (bs.length + m) cap := by
    rcases hown'.2 with ⟨_, h0⟩ | ⟨g, cap, cur, hv, _⟩
    · omega
    · exact ⟨g, cap, hv⟩
  go_wp2
  go_ret2
  refine ⟨rfl, ?_, ?_⟩
  · exact Lib.BuilderAt.put (T := 99) (e := 5) hB hb2 (bs' := bs ++ news) (by simpa [hm] using hown') (by decide)
  · exact (hb1.grown hgrow (by have := hb1.size; omega) (fun k hk => (hown.lt k hk).1)).setCell (p := ⟨b, 1, none⟩) hB _
end Go.Proofs.YtomckoldfdeidaaGreatDoor
