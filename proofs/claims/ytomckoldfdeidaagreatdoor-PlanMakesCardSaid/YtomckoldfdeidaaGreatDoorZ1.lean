/- Part 2 of 5 of a proof that the statement holds: own lemmas and walks. No further conditions. -/
import Derived.Test.YtomckoldfdeidaaGreatDoorZ0
import Derived.Lib.UnsafeStr
import Derived.Laws.BytesArg
import Derived.IntWalk
import Derived.Deep.Light
import Derived.Lib.Hide
import Derived.Lib.BufferMore
import Derived.Lib.SmallJoins
import Derived.WalkKit
import Derived.Carry
import Derived.Below
import Derived.Deep.Draws
import Derived.Maps.Own
import GoSem.Op.String
import Derived.Deep.RegionHeld3
import Derived.Lib.Walk
import Derived.OneCell

/- PLAIN WORDS: bytes as lines of plain letters; bytes as a format. -/
namespace Go.Proofs.YtomckoldfdeidaaGreatDoor
open Go

def letr (n : Nat) : UInt8 := if n = 0 then 96 else UInt8.ofNat (32 + n)
def q4 (N : Nat) : List UInt8 := [letr (N / 262144), letr (N / 4096 % 64), letr (N / 64 % 64), letr (N % 64)]
def n3 (a b c : UInt8) : Nat := a.toNat * 65536 + b.toNat * 256 + c.toNat
def grpL : List UInt8 → List UInt8
  | a :: b :: c :: r => q4 (n3 a b c) ++ grpL r
  | [a, b] => q4 (n3 a b 0)
  | [a] => q4 (n3 a 0 0)
  | [] => []
def lineL (l : List UInt8) : List UInt8 := letr (l.length % 256) :: grpL l ++ [10]

theorem grpL_snoc3 : ∀ (l : List UInt8) (m : Nat), l.length = 3 * m → ∀ a b c, grpL (l ++ [a, b, c]) = grpL l ++ q4 (n3 a b c)
  | [], _, _, a, b, c => by simp [grpL]
  | [x], m, h, a, b, c => by simp at h; omega
  | [x, y], m, h, a, b, c => by simp at h; omega
  | x :: y :: z :: r, m, h, a, b, c => by
    simp only [List.cons_append, grpL]
    rw [grpL_snoc3 r (m - 1) (by simp at h; omega) a b c, List.append_assoc]

theorem grpL_len : ∀ (l : List UInt8), (grpL l).length = (l.length + 2) / 3 * 4
  | [] => rfl
  | [x] => by simp [grpL, q4]
  | [x, y] => by simp [grpL, q4]
  | x :: y :: z :: r => by
    simp only [grpL, List.length_append, grpL_len r, q4, List.length_cons, List.length_nil]
    omega

theorem grpL_pad1 : ∀ (l : List UInt8) (m : Nat), l.length = 3 * m + 2 → grpL (l ++ [0]) = grpL l
  | [], m, h => by simp at h
  | [x], m, h => by simp at h
  | [x, y], m, _ => by simp [grpL]
  | x :: y :: z :: r, m, h => by
    simp only [List.cons_append, grpL]
    rw [grpL_pad1 r (m - 1) (by simp at h; omega)]
theorem grpL_pad2 : ∀ (l : List UInt8) (m : Nat), l.length = 3 * m + 1 → grpL (l ++ [0]) = grpL l
  | [], m, h => by simp at h
  | [x], m, _ => by simp [grpL]
  | [x, y], _, h => by simp at h; omega
  | x :: y :: z :: r, m, h => by
    simp only [List.cons_append, grpL]
    rw [grpL_pad2 r (m - 1) (by simp at h; omega)]

theorem lineL_len (l : List UInt8) : (lineL l).length = (l.length + 2) / 3 * 4 + 2 := by
  unfold lineL; simp [grpL_len]

/-- The lines of bytes, without the first one and the last ones. -/
def linesL (l : List UInt8) : List UInt8 := if _h : l = [] then [] else lineL (l.take 45) ++ linesL (l.drop 45)
termination_by l.length
decreasing_by
  have : 0 < l.length := List.length_pos_iff.2 _h
  simp only [List.length_drop]; omega

theorem linesL_nil : linesL [] = [] := by rw [linesL]; simp
theorem linesL_cons {l : List UInt8} (h : l ≠ []) : linesL l = lineL (l.take 45) ++ linesL (l.drop 45) := by rw [linesL, dif_neg h]

/-- All of it, in mode 600, under the name x. -/
def encL (l : List UInt8) : List UInt8 := [98, 101, 103, 105, 110, 32, 54, 48, 48, 32, 120, 10] ++ linesL l ++ [96, 10, 101, 110, 100, 10]

theorem linesL_len : ∀ (n : Nat) (l : List UInt8), l.length = n → (linesL l).length + 6 = encN n := by
  intro n
  induction n using Nat.strongRecOn with
  | _ n ih =>
    intro l hl
    by_cases h : l = []
    · subst h; simp at hl; subst hl; rw [linesL_nil]; rfl
    · have hp : 0 < l.length := List.length_pos_iff.2 h
      rw [linesL_cons h, List.length_append, lineL_len]
      rw [List.length_take]
      rcases Nat.lt_or_ge n 45 with h45 | h45
      · have e : l.drop 45 = [] := List.drop_eq_nil_of_le (by omega)
        have e2 : min 45 l.length = n := by omega
        rw [e, linesL_nil, e2, List.length_nil]
        unfold encN
        have e3 : n / 45 = 0 := by omega
        have e4 : n % 45 = n := by omega
        rw [e3, e4, if_neg (by omega)]
        omega
      · have h2 := ih (n - 45) (by omega) (l.drop 45) (by simp; omega)
        unfold encN at h2 ⊢
        have e2 : min 45 l.length = 45 := by omega
        rw [e2]
        have e3 : n / 45 = (n - 45) / 45 + 1 := by omega
        have e4 : n % 45 = (n - 45) % 45 := by omega
        rw [e3, e4]
        omega

/-- A sign as a format has it. -/
def esc1 (c : UInt8) : List UInt8 := if plc c then [c] else [92, UInt8.ofNat (48 + c.toNat / 64), UInt8.ofNat (48 + c.toNat / 8 % 8), UInt8.ofNat (48 + c.toNat % 8)]
def escL (l : List UInt8) : List UInt8 := l.flatMap esc1
theorem escL_len (l : List UInt8) : (escL l).length = escN l := by
  unfold escL escN
  induction l with
  | nil => rfl
  | cons c r ih =>
    simp only [List.flatMap_cons, List.length_append, List.map_cons, List.sum_cons, ih]
    unfold esc1
    split <;> simp

/-- Bytes, told one way. -/
def tellL (way : Int) (l : List UInt8) : List UInt8 := if way = 1 then l else if way = 2 then encL l else escL l
end Go.Proofs.YtomckoldfdeidaaGreatDoor

/- package uu: letter, line. -/
namespace Go.Proofs.YtomckoldfdeidaaGreatDoor
open Go.RowKit

/-- Bytes in a row of the call's own, as a string. -/
theorem own_str {w : World} {base n : Nat} {v : Value} {l : List UInt8} (h : w.ownsRow base 5 1 v n (Lib.byteCells l)) : (convert 91 9 v).run Tryz.prog w = .ok (.string ⟨l.toArray⟩) w := by
  have hl : l.length = n := by have := h.1; simpa [Lib.byteCells] using this
  have e : ∀ l : List UInt8, strOfNums (l.map fun b => (b.toNat : Int)) = ⟨l.toArray⟩ := by
    intro l; unfold strOfNums
    rw [List.map_map]
    congr 2
    conv => rhs; rw [← List.map_id l]
    apply List.map_congr_left
    intro b _
    simp
  rw [← e]
  rcases h.2 with ⟨rfl, rfl⟩ | ⟨g, cap, cur, rfl, _⟩
  · obtain rfl : l = [] := List.eq_nil_of_length_eq_zero hl
    exact run_convert_bytes_nil w 91 5 Tryz.underlying91 Tryz.underlying5 0 0 9 Tryz.underlying9
  · refine run_convert_bytes_arg w 91 5 Tryz.underlying91 Tryz.underlying5 g 0 n cap _ (by simpa using hl) (fun i hi => ?_) 9 Tryz.underlying9
    have hc := own_cells h (j := i) (u := .int .u8 ((l.map fun b => (b.toNat : Int)).getD i 0)) (by simp [Lib.byteCells, List.getElem?_eq_getElem (show i < l.length by omega), List.getD_eq_getElem?_getD])
    rw [show (0 : Nat) + i = i by omega]
    exact hc

theorem letr_val (n : Nat) (h : n < 64) (h0 : n ≠ 0) : ((letr n).toNat : Int) = 32 + n := by
  unfold letr; rw [if_neg h0, UInt8.toNat_ofNat']; omega

theorem uu_letter (n : Nat) (h : n < 64) (w : World) : Calls Tryz.prog 81 #[.int .u8 n] w fun e w' => e = .returned (.int .u8 ((letr n).toNat : Nat)) ∧ w = w' := by
  by_cases h0 : n = 0
  · subst h0
    go_enter Tryz.func81, Tryz.ntmps81
    go_wp2
    go_ret
    exact ⟨rfl, rfl⟩
  · have hz : ((n : Int) == 0) = false := by rw [beq_eq_false_iff_ne]; omega
    have e := letr_val n h h0
    have E := Lib.hid e; clear e h0
    go_enter Tryz.func81, Tryz.ntmps81
    go_wp2
    go_ret
    refine ⟨ret_int ?_, rfl⟩
    rw [E.out]

theorem app_mk (x y : List UInt8) : (⟨x.toArray⟩ : ByteArray) ++ (⟨y.toArray⟩ : ByteArray) = ⟨(x ++ y).toArray⟩ := by
  apply ByteArray.ext
  rw [ByteArray.data_append]
  simp
theorem app_data (a b : ByteArray) : (a ++ b).data.toList = a.data.toList ++ b.data.toList := by
  rw [ByteArray.data_append]; simp

/-- A text with enough zeros behind it. -/
def padL (l : List UInt8) : List UInt8 := l ++ List.replicate ((3 - l.length % 3) % 3) 0
theorem padL_len (l : List UInt8) : (padL l).length % 3 = 0 := by unfold padL; simp; omega
theorem padL_grp (l : List UInt8) : grpL (padL l) = grpL l := by
  unfold padL
  rcases (by omega : l.length % 3 = 0 ∨ l.length % 3 = 1 ∨ l.length % 3 = 2) with h | h | h
  · rw [h]; simp
  · rw [h]
    have e : List.replicate ((3 - 1) % 3) (0 : UInt8) = [0] ++ [0] := rfl
    rw [e, ← List.append_assoc, grpL_pad1 (l ++ [0]) (l.length / 3) (by simp; omega), grpL_pad2 l (l.length / 3) (by omega)]
  · rw [h]
    have e : List.replicate ((3 - 2) % 3) (0 : UInt8) = [0] := rfl
    rw [e, grpL_pad1 l (l.length / 3) (by omega)]

theorem wraps_u32 (n : Int) (h₀ : 0 ≤ n) (h₁ : n < 2 ^ 32) : IntKind.u32.wrap n = n := by rw [IntKind.wrap_u32]; omega

theorem or32 (a b c : UInt8) : bits .or .u32 (bits .or .u32 ((a.toNat : Int) % 4294967296 * 65536 % 4294967296) ((b.toNat : Int) % 4294967296 * 256 % 4294967296)) ((c.toNat : Int) % 4294967296) = ((n3 a b c : Nat) : Int) := by
  have ha := a.toNat_lt
  have hb := b.toNat_lt
  have hc := c.toNat_lt
  have e1 : (a.toNat : Int) % 4294967296 * 65536 % 4294967296 = ((a.toNat * 65536 : Nat) : Int) := by omega
  have e2 : (b.toNat : Int) % 4294967296 * 256 % 4294967296 = ((b.toNat * 256 : Nat) : Int) := by omega
  have e3 : (c.toNat : Int) % 4294967296 = ((c.toNat : Nat) : Int) := by omega
  rw [e1, e2, e3]
  have o1 : bits .or .u32 ((a.toNat * 65536 : Nat) : Int) ((b.toNat * 256 : Nat) : Int) = ((a.toNat * 65536 : Nat) : Int) + ((b.toNat * 256 : Nat) : Int) := bits_join .u32 32 (by decide) wraps_u32 16 _ _ (by omega) (by omega) (by omega) (by omega) (by omega) (by omega)
  rw [o1]
  rw [bits_join .u32 32 (by decide) wraps_u32 8 _ _ (by omega) (by omega) (by omega) (by omega) (by omega) (by omega)]
  unfold n3
  omega

theorem and63 (m : Nat) (h : m < 4294967296) : bits .and .u32 (m : Int) 63 = ((m % 64 : Nat) : Int) := by
  have := bits_mask .u32 32 (by decide) wraps_u32 6 (by decide) (m : Int) (by omega) (by omega)
  have e : (2 : Int) ^ 6 - 1 = 63 := by decide
  rw [e] at this
  rw [this]
  have e2 : (2 : Int) ^ 6 = 64 := by decide
  rw [e2]
  omega

theorem n3_lt (a b c : UInt8) : n3 a b c < 16777216 := by
  have ha := a.toNat_lt
  have hb := b.toNat_lt
  have hc := c.toNat_lt
  unfold n3; omega

/-- The six bits of the letter j. -/
def shv (j N : Nat) : Nat := N / 64 ^ (3 - j) % 64
theorem shv_lt (j N : Nat) : shv j N < 64 := Nat.mod_lt _ (by decide)
theorem q4_take (j N : Nat) (hN : N < 16777216) (hj : j < 4) : (q4 N).take (j + 1) = (q4 N).take j ++ [letr (shv j N)] := by
  have e : N / 262144 % 64 = N / 262144 := by omega
  rcases (by omega : j = 0 ∨ j = 1 ∨ j = 2 ∨ j = 3) with h | h | h | h <;> subst h <;> simp [q4, shv, e]
theorem sh_any0 (N : Nat) (h : N < 16777216) : bits .and .u32 ((N : Int) / 262144) 63 % 256 = ((shv 0 N : Nat) : Int) := by
  rw [show (N : Int) / 262144 = ((N / 262144 : Nat) : Int) by omega, and63 _ (by omega)]
  unfold shv; simp only [Nat.reducePow, Nat.reduceSub]; omega
theorem sh_any1 (N : Nat) (h : N < 16777216) : bits .and .u32 ((N : Int) / 4096) 63 % 256 = ((shv 1 N : Nat) : Int) := by
  rw [show (N : Int) / 4096 = ((N / 4096 : Nat) : Int) by omega, and63 _ (by omega)]
  unfold shv; simp only [Nat.reducePow, Nat.reduceSub]; omega
theorem sh_any2 (N : Nat) (h : N < 16777216) : bits .and .u32 ((N : Int) / 64) 63 % 256 = ((shv 2 N : Nat) : Int) := by
  rw [show (N : Int) / 64 = ((N / 64 : Nat) : Int) by omega, and63 _ (by omega)]
  unfold shv; simp only [Nat.reducePow, Nat.reduceSub]; omega
theorem sh_any3 (N : Nat) (h : N < 16777216) : bits .and .u32 (N : Int) 63 % 256 = ((shv 3 N : Nat) : Int) := by
  rw [and63 _ (by omega)]
  unfold shv; simp only [Nat.reducePow, Nat.reduceSub]; omega

set_option maxRecDepth 100000 in
set_option maxHeartbeats 3200000 in
theorem uu_line (s : ByteArray) (hs : s.size ≤ 45) (w : World) :
    Calls Tryz.prog 67 #[.string s] w fun e w' => e = .returned (.string ⟨(lineL s.data.toList).toArray⟩) ∧ Below w.heap.size w w' := by
  obtain ⟨i0, hi, hz0, hz1, hz2⟩ := info_parts infoByte
  have hlet := uu_letter s.size (by omega)
  go_enter Tryz.func67, Tryz.ntmps67
  go_wp2_with (go_at_call 81; (with_reducible refine (hlet _).mono ?_); rintro e w' ⟨rfl, rfl⟩)
  have hlen := Lib.size_eq s
  obtain ⟨l, hl⟩ : ∃ l, l = s.data.toList := ⟨_, rfl⟩
  have HL := Lib.hid hl
  have HLEN : Hid (l.length = s.size) := by rw [hl]; exact hlen.symm
  clear hl hlen hlet
  go_loopg [0] ((3 - s.size % 3) % 3) (fun g v w' => ∃ (j : Nat) (b : ByteArray), j + g = (3 - s.size % 3) % 3 ∧ v = .string b ∧ b = ⟨(l ++ List.replicate j 0).toArray⟩ ∧ w' = w.alloc (.cells #[.int .u8 ((letr s.size).toNat : Nat)] 5))
  case atStart => exact ⟨0, s, by omega, rfl, by rw [HL.out]; simp, rfl⟩
  case round =>
    obtain ⟨j, b, hj, rfl, hb, rfl⟩ := hrel
    have hbs : b.size = s.size + j := by rw [hb, Lib.size_eq]; simp [HLEN.out]
    have HB := Lib.hid hb; clear hb
    by_cases hg : gk = 0
    · have hm : ((b.size : Int) % 3 != 0) = false := by rw [bne_eq_false_iff_eq]; omega
      have hbm : b.size % 3 = 0 := by omega
      have hbz : b.size ≤ 47 := by omega
      have HBP : Hid (b.data.toList = padL l) := by
        show b.data.toList = padL l
        rw [HB.out]; unfold padL; rw [HLEN.out]; show l ++ List.replicate j 0 = _; congr 2; omega
      have HBM := Lib.hid hbm
      clear hbs hj hg
      have hown0 : (w.alloc (.cells #[.int .u8 ((letr s.size).toNat : Nat)] 5)).ownsRow w.heap.size 5 1 (.slice (some ⟨w.heap.size, 0, none⟩) 1 1) 1 (Lib.byteCells [letr s.size]) :=
        ⟨rfl, .inr ⟨w.heap.size, 1, #[.int .u8 ((letr s.size).toNat : Nat)], rfl, Nat.le_refl _, (MapKept.heap_alloc w _).1, Nat.le_refl _, by decide, rfl, rfl⟩⟩
      have hbel0 : Below w.heap.size w (w.alloc (.cells #[.int .u8 ((letr s.size).toNat : Nat)] 5)) := (Below.refl _ _).alloc (Nat.le_refl _) _
      have HOWN0 := Lib.hid hown0; have HBEL0 := Lib.hid hbel0
      clear hown0 hbel0 hm
      obtain ⟨r, hr⟩ : ∃ r, b.size = 3 * r := ⟨b.size / 3, by omega⟩
      have HR := Lib.hid hr; clear hr
      have hr15 : r ≤ 15 := by have := HR.out; omega
      go_wp2
      rename ((b.size : Int) % 3 != 0) = false => hbool
      clear hbool
      go_loopw [3, 4] (fun v i wr => ∃ j : Nat, j ≤ r ∧ i = .int .i64 ((3 * j : Nat) : Int) ∧ wr.ownsRow w.heap.size 5 1 v (1 + 4 * j) (Lib.byteCells (letr s.size :: grpL (b.data.toList.take (3 * j)))) ∧ Below w.heap.size w wr) (fun _ i _ => b.size - (intOf i).toNat)
      case atStart => exact ⟨0, Nat.zero_le _, rfl, HOWN0.out, HBEL0.out⟩
      case round =>
        obtain ⟨q, hq, rfl, hown, hbw⟩ := hrel
        have hszw := hbw.size
        by_cases hlt : q < r
        · have hlt2 : 3 * q + 2 < b.size := by have := HR.out; omega
          obtain ⟨i, hi3⟩ : ∃ i, i = 3 * q := ⟨_, rfl⟩
          rw [← hi3] at hlt2
          have HI3 := Lib.hid hi3
          rw [← hi3]
          clear hi3
          have x0 : (0 : Int) ≤ (i : Int) := by omega
          have x1 : (i : Int) < (b.size : Int) := by omega
          have y0 : (0 : Int) ≤ (i : Int) + 1 := by omega
          have y1 : (i : Int) + 1 < (b.size : Int) := by omega
          have z0 : (0 : Int) ≤ (i : Int) + 2 := by omega
          have z1 : (i : Int) + 2 < (b.size : Int) := by omega
          have y3 : ((i : Int) + 1).toNat = i + 1 := by omega
          have z3 : ((i : Int) + 2).toNat = i + 2 := by omega
          have y2 : IntKind.i64.wrap ((i : Int) + 1) = (i : Int) + 1 := IntWalk.i64_in _ (by omega)
          have z2 : IntKind.i64.wrap ((i : Int) + 2) = (i : Int) + 2 := IntWalk.i64_in _ (by omega)
          go_wp2
          go_quiet (fail)
          rw [or32 b[i] b[i + 1] b[i + 2]]
          obtain ⟨N, hN⟩ : ∃ N, N = n3 b[i] b[i + 1] b[i + 2] := ⟨_, rfl⟩
          rw [← hN]
          have hNlt : N < 16777216 := by rw [hN]; exact n3_lt _ _ _
          have hgs : grpL (b.data.toList.take (i + 3)) = grpL (b.data.toList.take i) ++ q4 N := by
            have h0 := Lib.data_getElem? b i (by omega)
            have h1 := Lib.data_getElem? b (i + 1) (by omega)
            have h2 := Lib.data_getElem? b (i + 2) (by omega)
            have e : b.data.toList.take (i + 3) = b.data.toList.take i ++ [b[i], b[i + 1], b[i + 2]] := by
              rw [List.take_add_one, List.take_add_one, List.take_add_one, h0, h1, h2]; simp
            rw [e, hN]
            exact grpL_snoc3 _ q (by rw [List.length_take, ← Lib.size_eq, HI3.out]; have := HI3.out; omega) _ _ _
          have hownq : (wr.drewN nq).ownsRow w.heap.size 5 1 u3 (1 + 4 * q) (Lib.byteCells (letr s.size :: grpL (b.data.toList.take i))) := by rw [HI3.out]; exact hown
          have hbwq : Below w.heap.size w (wr.drewN nq) := ⟨hbw.os, hbw.tape, hbw.output, hbw.size, hbw.block⟩
          have HGS := Lib.hid hgs; have HB2 := Lib.hid hbwq
          clear hN hown hbw hgs hbwq y2 z2
          generalize wr.drewN nq = wo at *
          go_wp2
          obtain ⟨X, hX0, hXs, hX4⟩ : ∃ X : Nat → List Value, X 0 = Lib.byteCells (letr s.size :: grpL (b.data.toList.take i)) ∧ (∀ j, j < 4 → X (j + 1) = X j ++ [.int .u8 ((letr (shv j N)).toNat : Nat)]) ∧ X 4 = Lib.byteCells (letr s.size :: grpL (b.data.toList.take (i + 3))) := by
            refine ⟨fun j => Lib.byteCells ((letr s.size :: grpL (b.data.toList.take i)) ++ (q4 N).take j), by simp, fun j hj => ?_, ?_⟩
            · show Lib.byteCells _ = Lib.byteCells _ ++ _
              rw [q4_take j N hNlt hj]; simp [Lib.byteCells]
            · show Lib.byteCells _ = _
              rw [HGS.out]; simp [q4]
          have HX := Lib.hid hXs; have HX4 := Lib.hid hX4
          rw [← hX0] at hownq
          clear hX0 hXs hX4
          go_loopw [3, 6] (fun v k wr => ∃ j : Nat, j ≤ 4 ∧ k = .int .i64 (3 - (j : Int)) ∧ wr.ownsRow w.heap.size 5 1 v (1 + 4 * q + j) (X j) ∧ Below w.heap.size w wr) (fun _ k _ => (intOf k + 1).toNat)
          case atStart => exact ⟨0, by omega, rfl, hownq, HB2.out⟩
          case round =>
            obtain ⟨j, hj, rfl, hown, hbw⟩ := hrel
            have hszw := hbw.size
            have hbase : w.heap.size ≤ wr.heap.size := hszw
            by_cases hj4 : j < 4
            · have hsn := HX.out j hj4
              have hlet := uu_letter (shv j N) (shv_lt j N)
              obtain ⟨lt, hlt⟩ : ∃ v, v = (((letr (shv j N)).toNat : Nat) : Int) := ⟨_, rfl⟩
              rw [← hlt] at hsn hlet
              have HS := Lib.hid hsn; have HB := Lib.hid hbw
              clear hsn hbw hlt
              rcases (by omega : j = 0 ∨ j = 1 ∨ j = 2 ∨ j = 3) with hj0 | hj0 | hj0 | hj0 <;> subst hj0
              all_goals first | rw [show (3 - ((0 : Nat) : Int)) = 3 from rfl] | rw [show (3 - ((1 : Nat) : Int)) = 2 from rfl] | rw [show (3 - ((2 : Nat) : Int)) = 1 from rfl] | rw [show (3 - ((3 : Nat) : Int)) = 0 from rfl]
              all_goals
                go_wp2_with (go_at_call 81; (first | rw [sh_any0 N hNlt] | rw [sh_any1 N hNlt] | rw [sh_any2 N hNlt] | rw [sh_any3 N hNlt]); with_reducible refine (hlet _).mono ?_)
                rintro e w' ⟨rfl, rfl⟩
                go_wp2_with (at_builtin; refine wpList_append_lies _ rfl _ _ 91 rfl w.heap.size 5 i0 (.int .u8 0) 1 1 Tryz.underlying91 hi hz0 hz1 hz2 rfl (by decide) _ _ _ rfl (hown.alloc _) ⟨wr.heap.size, 0, none⟩ 1 1 [.int .u8 lt] rfl rfl ?c1 ?c2 (by decide) ?c3 ?c4 ?c5 _ rfl ?_)
                case c1 => intro j u hj; match j, hj with | 0, hj => simp at hj; subst hj; simp [Addr.add]
                case c2 => intro u hu; simp at hu; subst hu; rfl
                case c3 => unfold maxLen; omega
                case c4 => omega
                case c5 => simp; omega
                intro g cap w2 hown2 hgrow hat hlt2
                have hb2 : Below w.heap.size w w2 := ((HB.out).alloc (by omega) _).grown hgrow (by simp; omega) (fun k hk => (hown.lt k hk).1)
                rw [← HS.out] at hown2
                have HO := Lib.hid hown2; have HB2 := Lib.hid hb2
                clear hown2 hb2 hat hgrow hown
                go_wp2
                go_roundw
                case rel => exact ⟨_, by decide, rfl, HO.out, HB2.out⟩
                case measure => simp [intOf]
            · have hj44 : j = 4 := by omega
              subst hj44
              rw [HX4.out] at hown
              have HO := Lib.hid hown; have HB := Lib.hid hbw
              clear hown hbw
              rw [show (3 - ((4 : Nat) : Int)) = -1 from rfl]
              have hs3 : IntKind.i64.wrap ((i : Int) + 3) = (i : Int) + 3 := IntWalk.i64_in _ (by omega)
              go_wp2
              go_roundw
              case rel => exact ⟨q + 1, by omega, by have := HI3.out; go_num, by have := HI3.out; rw [show 3 * (q + 1) = i + 3 by omega, show 1 + 4 * (q + 1) = 1 + 4 * q + 4 by omega]; exact HO.out, HB.out⟩
              case measure => simp [intOf]; omega
        · have hqr : q = r := by omega
          subst hqr
          have hi3 : 3 * q = b.size := HR.out.symm
          rw [hi3] at hown ⊢
          rw [show b.data.toList.take b.size = b.data.toList by rw [Lib.size_eq]; exact List.take_length, HBP.out, padL_grp, HL.out] at hown
          have HB := Lib.hid hbw
          clear hbw hi3
          go_wp2_with (at_builtin; refine wpList_append_lies _ rfl _ _ 91 rfl w.heap.size 5 i0 (.int .u8 0) 1 1 Tryz.underlying91 hi hz0 hz1 hz2 rfl (by decide) _ _ _ rfl (hown.alloc _) ⟨wr.heap.size, 0, none⟩ 1 1 [.int .u8 10] rfl rfl ?c1 ?c2 (by decide) ?c3 ?c4 ?c5 _ rfl ?_)
          case c1 => intro j u hj; match j, hj with | 0, hj => simp at hj; subst hj; simp [Addr.add]
          case c2 => intro u hu; simp at hu; subst hu; rfl
          case c3 => unfold maxLen; omega
          case c4 => omega
          case c5 => simp; omega
          intro g cap w2 hown2 hgrow hat hlt2
          have hb2 : Below w.heap.size w w2 := ((HB.out).alloc (by omega) _).grown hgrow (by simp; omega) (fun k hk => (hown.lt k hk).1)
          have hlast : Lib.byteCells (letr s.size :: grpL s.data.toList) ++ [.int .u8 10] = Lib.byteCells (letr s.size :: grpL s.data.toList ++ [10]) := by simp [Lib.byteCells]
          rw [hlast] at hown2
          have hstr := own_str hown2
          have HB2 := Lib.hid hb2
          clear hown2 hb2 hat hgrow hown hlast
          go_wp2
          go_ret
          refine ⟨?_, HB2.out⟩
          unfold lineL
          rw [← Lib.size_eq, show s.size % 256 = s.size by omega]
          rfl
    · have hgk : ∃ g', gk = g' + 1 := ⟨gk - 1, by omega⟩
      obtain ⟨g', rfl⟩ := hgk
      have hm : ((b.size : Int) % 3 != 0) = true := by rw [bne_iff_ne]; omega
      go_wp2
      go_roundg g'
      case rel => exact ⟨j + 1, _, by omega, rfl, by rw [HB.out]; rw [show (⟨#[0]⟩ : ByteArray) = ⟨([0] : List UInt8).toArray⟩ from rfl, app_mk, List.append_assoc, ← List.replicate_succ'], rfl⟩
      case measure => omega
end Go.Proofs.YtomckoldfdeidaaGreatDoor

/- package mode: Octal. -/
namespace Go.Proofs.YtomckoldfdeidaaGreatDoor
open Go.RowKit

/-- The digit j from the right. -/
def octd (m j : Nat) : UInt8 := UInt8.ofNat (48 + m / 8 ^ j % 8)
def octL (m : Nat) : List UInt8 := [octd m 3, octd m 2, octd m 1, octd m 0]
/-- The row after j digits. -/
def octW (w : World) (m j : Nat) : World := w.alloc (.cells #[.int .u8 (if 4 ≤ j then (octd m 3).toNat else 0 : Nat), .int .u8 (if 3 ≤ j then (octd m 2).toNat else 0 : Nat), .int .u8 (if 2 ≤ j then (octd m 1).toNat else 0 : Nat), .int .u8 (if 1 ≤ j then (octd m 0).toNat else 0 : Nat)] 5)

theorem wraps_i64 (n : Int) (h₀ : 0 ≤ n) (h₁ : n < 2 ^ 63) : IntKind.i64.wrap n = n := IntWalk.i64_in _ (by omega)
theorem and7 (m : Nat) (h : m < 9223372036854775808) : bits .and .i64 (m : Int) 7 = ((m % 8 : Nat) : Int) := by
  have := bits_mask .i64 63 (by decide) wraps_i64 3 (by decide) (m : Int) (by omega) (by omega)
  have e : (2 : Int) ^ 3 - 1 = 7 := by decide
  rw [e] at this
  rw [this]
  have e2 : (2 : Int) ^ 3 = 8 := by decide
  rw [e2]
  omega
theorem oct_one (m x j : Nat) (hx : m / 8 ^ j = x) (h : x < 9223372036854775808) : wrap64 (48 + bits .and .i64 (x : Int) 7) % 256 = (((octd m j).toNat : Nat) : Int) := by
  rw [and7 x h]
  rw [show wrap64 (48 + ((x % 8 : Nat) : Int)) = 48 + ((x % 8 : Nat) : Int) from IntWalk.wrap64_in _ (by omega)]
  unfold octd; rw [hx, UInt8.toNat_ofNat']; omega

set_option maxRecDepth 100000 in
set_option maxHeartbeats 3200000 in
theorem mode_Octal (m : Nat) (hm : m ≤ 4095) (w : World) :
    Calls Tryz.prog 66 #[.int .i64 m] w fun e w' => e = .returned (.string ⟨(octL m).toArray⟩) ∧ Below w.heap.size w w' := by
  obtain ⟨i0, hi, hz0, hz1, hz2⟩ := info_parts infoByte
  have hmk : ∀ w, (Instr.makeSlice 91 (.int .i64 4) (.int .i64 4)).run Tryz.prog w = .ok (.slice (some ⟨w.heap.size, 0, none⟩) 4 4) (w.alloc (.cells #[.int .u8 0, .int .u8 0, .int .u8 0, .int .u8 0] 5)) := fun _ => by kernel_rfl
  go_enter Tryz.func66, Tryz.ntmps66
  go_wp2
  go_loopw [4, 8] (fun _ k w' => ∃ j : Nat, j ≤ 4 ∧ k = .int .i64 j ∧ w' = octW w m j) (fun _ k _ => 4 - (intOf k).toNat)
  case atStart => exact ⟨0, by omega, rfl, rfl⟩
  case round =>
    obtain ⟨j, hj, rfl, rfl⟩ := hrel
    have d0 := oct_one m m 0 (by simp) (by omega)
    have d1 := oct_one m (m / 8) 1 (by simp) (by omega)
    have d2 := oct_one m (m / 64) 2 (by simp) (by omega)
    have d3 := oct_one m (m / 512) 3 (by simp) (by omega)
    have D0 := Lib.hid d0; have D1 := Lib.hid d1; have D2 := Lib.hid d2; have D3 := Lib.hid d3
    clear d0 d1 d2 d3
    rcases (by omega : j = 0 ∨ j = 1 ∨ j = 2 ∨ j = 3 ∨ j = 4) with h | h | h | h | h <;> subst h
    · rw [show ((0 : Nat) : Int) = 0 from rfl]
      unfold octW
      go_wp2
      refine ⟨⟨1, by omega, rfl, ?_⟩, by decide⟩
      rw [D0.out]; simp
    · rw [show ((1 : Nat) : Int) = 1 from rfl]
      unfold octW
      go_wp2
      refine ⟨⟨2, by omega, rfl, ?_⟩, by decide⟩
      rw [show (m : Int) / 8 = ((m / 8 : Nat) : Int) by omega, D1.out]; simp
    · rw [show ((2 : Nat) : Int) = 2 from rfl]
      unfold octW
      go_wp2
      refine ⟨⟨3, by omega, rfl, ?_⟩, by decide⟩
      rw [show (m : Int) / 64 = ((m / 64 : Nat) : Int) by omega, D2.out]; simp
    · rw [show ((3 : Nat) : Int) = 3 from rfl]
      unfold octW
      go_wp2
      refine ⟨⟨4, by omega, rfl, ?_⟩, by decide⟩
      rw [show (m : Int) / 512 = ((m / 512 : Nat) : Int) by omega, D3.out]; simp
    · rw [show ((4 : Nat) : Int) = 4 from rfl]
      have hown : (octW w m 4).ownsRow w.heap.size 5 1 (.slice (some ⟨w.heap.size, 0, none⟩) 4 4) 4 (Lib.byteCells (octL m)) :=
        ⟨rfl, .inr ⟨w.heap.size, 4, _, rfl, Nat.le_refl _, (MapKept.heap_alloc w _).1, Nat.le_refl _, by decide, rfl, by simp [octL, Lib.byteCells]⟩⟩
      have hbel : Below w.heap.size w (octW w m 4) := (Below.refl _ _).alloc (Nat.le_refl _) _
      have hstr := own_str hown
      clear hown
      generalize octW w m 4 = wo at *
      go_wp2
      go_ret
      exact ⟨rfl, hbel⟩
end Go.Proofs.YtomckoldfdeidaaGreatDoor

/- PLAIN WORDS: items of a tree, and when a tree may be. -/
namespace Go.Proofs.YtomckoldfdeidaaGreatDoor
open Go

structure It where
  path : ByteArray
  kind : Int
  mode : Int
  data : ByteArray
  same : ByteArray

def modeB (m : Int) : Bool := decide (0 ≤ m) && decide (m ≤ 4095)

/-- An error of what an item has. -/
def bodyE (x : It) : Int :=
  if (decide (x.kind = 2) && !x.data.toList.isEmpty) || (!decide (x.kind = 1) && !x.same.toList.isEmpty) then 43
  else if (decide (x.kind = 1) && decide (4194304 < (x.data.size : Int))) || (decide (x.kind = 3) && decide (4095 < (x.data.size : Int))) then 18
  else if decide (x.kind = 3) && !rightL x.data.data.toList then 11
  else 0

/-- An error of an item by itself. -/
def aloneE (x : It) : Int :=
  if !plainL x.path.data.toList then 11
  else if decide (x.kind < 1) || decide (3 < x.kind) then 43
  else if !modeB x.mode || (decide (x.kind = 3) && !decide (x.mode = 511)) then 10
  else bodyE x
end Go.Proofs.YtomckoldfdeidaaGreatDoor

/- PLAIN WORDS: what stands ahead of a path's last slash. -/
namespace Go.Proofs.YtomckoldfdeidaaGreatDoor
open Go

theorem pieces_cat (a b : List UInt8) : pieces (a ++ 47 :: b) = pieces a ++ pieces b := by
  induction a with
  | nil => simp [pieces]
  | cons c r ih =>
    by_cases hc : c = 47
    · subst hc; rw [List.cons_append, pieces, if_pos rfl, ih, pieces, if_pos rfl]; rfl
    · rw [List.cons_append, pieces, if_neg hc, ih, pieces, if_neg hc]
      have := pieces_ne r
      cases h : pieces r with
      | nil => exact absurd h this
      | cons p ps => rfl

/-- What stands ahead of the last slash; nothing where there is none. -/
def upL (l : List UInt8) : List UInt8 := if 47 ∈ l then ((l.reverse.dropWhile (fun c => c != 47)).drop 1).reverse else []

theorem up_of (a b : List UInt8) (h : 47 ∉ b) : upL (a ++ 47 :: b) = a := by
  unfold upL
  rw [if_pos (by simp)]
  have e : (a ++ 47 :: b).reverse = b.reverse ++ 47 :: a.reverse := by simp
  rw [e, List.dropWhile_append_of_pos]
  · simp
  · intro x hx
    have : x ≠ 47 := fun e => h (by subst e; simpa using hx)
    simpa using this

theorem up_none (l : List UInt8) (h : 47 ∉ l) : upL l = [] := by unfold upL; rw [if_neg h]

/-- A list with a slash, at its last one. -/
theorem last_slash (l : List UInt8) (h : 47 ∈ l) : ∃ a b, l = a ++ 47 :: b ∧ 47 ∉ b := by
  induction l with
  | nil => simp at h
  | cons c r ih =>
    by_cases hr : 47 ∈ r
    · obtain ⟨a, b, e, hb⟩ := ih hr
      exact ⟨c :: a, b, by rw [e]; rfl, hb⟩
    · have hc : c = 47 := by simp at h; rcases h with h | h; exact h.symm; exact absurd h hr
      exact ⟨[], r, by rw [hc]; rfl, hr⟩

theorem plain_pieces {l : List UInt8} (h : plainL l = true) : ∀ p ∈ pieces l, nameL p = true := by
  unfold plainL at h
  simp only [Bool.and_eq_true, List.all_eq_true] at h
  exact h.2

theorem plain_right {l : List UInt8} (h : plainL l = true) : rightL l = true := by
  unfold plainL at h
  simp only [Bool.and_eq_true] at h
  exact h.1

theorem plain_noempty {l : List UInt8} (h : plainL l = true) : [] ∉ pieces l := by
  intro hm
  have := plain_pieces h _ hm
  simp [nameL] at this

theorem noempty_left {a b : List UInt8} (h : [] ∉ pieces (a ++ 47 :: b)) : [] ∉ pieces a := by
  rw [pieces_cat] at h
  exact fun hm => h (List.mem_append.2 (.inl hm))

theorem noempty_ne {l : List UInt8} (h : [] ∉ pieces l) : l ≠ [] := by
  intro e; subst e; exact h (by simp [pieces])

theorem noempty_last {l : List UInt8} (h : [] ∉ pieces l) : l.getLast? ≠ some 47 := by
  intro e
  obtain ⟨a, rfl⟩ := List.getLast?_eq_some_iff.1 e
  have : pieces (a ++ [47]) = pieces a ++ pieces [] := pieces_cat a []
  rw [this] at h
  exact h (by simp [pieces])

theorem trimRight_same {l : List UInt8} (h : l.getLast? ≠ some 47) : Lib.trimRightB l 47 = l := by
  unfold Lib.trimRightB
  cases hr : l.reverse with
  | nil => have : l = [] := by simpa using hr
           subst this; rfl
  | cons c r =>
    have hl : l = r.reverse ++ [c] := by have := congrArg List.reverse hr; simpa using this
    have hc : c ≠ 47 := by intro e; subst e; rw [hl] at h; simp at h
    rw [List.dropWhile_cons_of_neg (by simpa using hc)]
    simp [hl]

theorem trimRight_snoc (l : List UInt8) : Lib.trimRightB (l ++ [47]) 47 = Lib.trimRightB l 47 := by
  unfold Lib.trimRightB
  simp

theorem plain_up_ne {l : List UInt8} (h : plainL l = true) : upL l ≠ [46] := by
  intro e
  by_cases hm : 47 ∈ l
  · obtain ⟨a, b, rfl, hb⟩ := last_slash l hm
    rw [up_of a b hb] at e
    subst e
    have h2 := plain_pieces h [46] (by rw [pieces_cat]; simp [pieces])
    simp [nameL] at h2
  · rw [up_none l hm] at e; simp at e

/-- strings.LastIndexByte at a slash. -/
theorem lastIndex_slash (s : ByteArray) : (Lib.lastIndexByte s 47 = -1 ∧ 47 ∉ s.data.toList) ∨
    (∃ k : Nat, k < s.size ∧ Lib.lastIndexByte s 47 = k ∧ s.data.toList = s.data.toList.take k ++ 47 :: s.data.toList.drop (k + 1) ∧ 47 ∉ s.data.toList.drop (k + 1)) := by
  have hget : ∀ j, j < s.size → s.data.toList[j]? = some (s.data[j]!) := by
    intro j hj
    have h1 : j < s.data.size := hj
    rw [getElem!_pos s.data j h1, List.getElem?_eq_getElem (by simpa using h1)]
    simp
  have hto : ∀ c : UInt8, ((c.toNat : Int) = 47) ↔ c = 47 := by
    intro c
    constructor
    · intro h; apply UInt8.toNat_inj.1; have : c.toNat = 47 := by omega
      rw [this]; rfl
    · intro h; subst h; rfl
  rcases Lib.lastIndexByte_spec s 47 with ⟨h1, h2⟩ | ⟨k, h1, h2, h3, h4⟩
  · left
    refine ⟨h1, fun hm => ?_⟩
    obtain ⟨j, hj, e⟩ := List.mem_iff_getElem.1 hm
    have hj' : j < s.size := by rw [Lib.size_eq]; exact hj
    have := hget j hj'
    rw [List.getElem?_eq_getElem hj, e] at this
    exact h2 j hj' ((hto _).2 (Option.some.inj this).symm)
  · right
    refine ⟨k, h1, h2, ?_, ?_⟩
    · have e := hget k h1
      have hk : k < s.data.toList.length := by rw [← Lib.size_eq]; exact h1
      rw [(hto _).1 h3, List.getElem?_eq_getElem hk] at e
      have e2 := Option.some.inj e
      rw [← e2, List.getElem_cons_drop, List.take_append_drop]
    · intro hm
      obtain ⟨j, hj, e⟩ := List.mem_iff_getElem.1 hm
      rw [List.getElem_drop] at e
      have hj' : k + 1 + j < s.size := by rw [Lib.size_eq]; simp at hj; simp; omega
      have := hget _ hj'
      rw [List.getElem?_eq_getElem (by rw [← Lib.size_eq]; exact hj'), e] at this
      exact h4 _ (by omega) hj' ((hto _).2 (Option.some.inj this).symm)

theorem lastIndex_parts (s : ByteArray) : (Lib.lastIndexByte s 47 = -1 ∧ 47 ∉ s.data.toList) ∨
    (∃ a b, s.data.toList = a ++ 47 :: b ∧ 47 ∉ b ∧ Lib.lastIndexByte s 47 = (a.length : Nat) ∧ a.length < s.size) := by
  rcases lastIndex_slash s with h | ⟨k, h1, h2, h3, h4⟩
  · exact .inl h
  · have hl : (s.data.toList.take k).length = k := by
      have : k < s.data.toList.length := by rw [← Lib.size_eq]; exact h1
      rw [List.length_take]; omega
    exact .inr ⟨_, _, h3, h4, by rw [hl]; exact h2, by rw [hl]; exact h1⟩
end Go.Proofs.YtomckoldfdeidaaGreatDoor

/- package path: bare, and Dir of a plain path. -/
namespace Go.Proofs.YtomckoldfdeidaaGreatDoor
open Go.RowKit

def bareL (l : List UInt8) : List UInt8 := if (Lib.trimRightB l 47).isEmpty && !l.isEmpty then [47] else Lib.trimRightB l 47

theorem toList_mk (l : List UInt8) : (⟨l.toArray⟩ : ByteArray).toList = l := by rw [Lib.toList_data]

set_option maxHeartbeats 400000 in
theorem path_bare (s : ByteArray) (w : World) (hs : s.size ≤ 9223372036854775807) :
    Calls Tryz.prog 54 #[.string s] w fun e w' => e = .returned (.string ⟨(bareL s.data.toList).toArray⟩) ∧ w = w' := by
  obtain ⟨t, ht⟩ : ∃ t, t = Lib.trimRightB s.data.toList 47 := ⟨_, rfl⟩
  have hc := Tryz.strings_TrimRight_one s 47 (by decide) w hs
  rw [← ht] at hc
  have HT := Lib.hid ht; clear ht
  have e1 := toList_mk t
  have e2 := Lib.toList_data s
  have E1 := Lib.hid e1; clear e1
  have E2 := Lib.hid e2; clear e2
  go_enter Tryz.func54, Tryz.ntmps54
  go_wp2_with (go_at_call 75; refine hc.mono ?_; rintro e w' ⟨rfl, rfl⟩)
  all_goals
    go_ret
    refine ⟨ret_str ?_, rfl⟩
    go_light
    have e1 := E1.out
    have e2 := E2.out
    have ht := HT.out
    clear E1 E2 HT
    unfold bareL
    rw [← ht, ← e2]
    simp_all

def dirL (l : List UInt8) : List UInt8 := if upL l = [] then [46] else upL l

set_option maxRecDepth 100000 in
set_option maxHeartbeats 800000 in
theorem path_Dir (s : ByteArray) (w : World) (hp : plainL s.data.toList = true) :
    Calls Tryz.prog 33 #[.string s] w fun e w' => e = .returned (.string ⟨(dirL s.data.toList).toArray⟩) ∧ w = w' := by
  have hne := plain_noempty hp
  have hlast := noempty_last hne
  have hnil := noempty_ne hne
  have hsz : s.size ≤ 4095 := by
    have := plain_right hp
    unfold rightL at this; rw [← Lib.size_eq] at this; simp at this; omega
  have hb := path_bare s w (by omega)
  have eb : bareL s.data.toList = s.data.toList := by
    unfold bareL
    rw [trimRight_same hlast, if_neg (by simp)]
  rw [eb, Lib.mk_data] at hb
  have hs47 : (s.toList == [47]) = false := by
    rw [Lib.toList_data, beq_eq_false_iff_ne]; intro e; rw [e] at hlast; simp at hlast
  have hli := Tryz.strings_LastIndexByte s 47 (by omega) w
  have H1 := Lib.hid hne; clear hlast hnil hp eb hne
  rcases lastIndex_parts s with ⟨h1, h2⟩ | ⟨a, b, h3, h4, h2, h1⟩
  · rw [h1] at hli
    have K2 := Lib.hid h2; clear h1 h2
    go_enter Tryz.func33, Tryz.ntmps33
    go_wp2_with (first | (go_at_call 54; (with_reducible refine hb.mono ?_); rintro e w' ⟨rfl, rfl⟩) | (go_at_call 34; (with_reducible refine hli.mono ?_); rintro e w' ⟨rfl, rfl⟩))
    go_ret
    refine ⟨ret_str ?_, rfl⟩
    unfold dirL
    rw [up_none _ K2.out]
    rfl
  · rw [h2] at hli
    have hne := H1.out
    rw [h3] at hne
    have ha : [] ∉ pieces a := noempty_left hne
    have eu : upL s.data.toList = a := by rw [h3]; exact up_of a b h4
    have ek : (s.extract 0 (a.length + 1)).data.toList = a ++ [47] := by
      rw [Lib.extract_data, h3]
      simp only [List.drop_zero, Nat.sub_zero]
      rw [List.take_append, List.take_of_length_le (by omega)]
      simp
    have hb2 := path_bare (s.extract 0 (a.length + 1)) w (by rw [Lib.size_eq, ek]; simp; omega)
    have eb2 : bareL (s.extract 0 (a.length + 1)).data.toList = a := by
      rw [ek]
      unfold bareL
      rw [trimRight_snoc, trimRight_same (noempty_last ha), if_neg (by have := noempty_ne ha; simp [this])]
    rw [eb2] at hb2
    have KA := Lib.hid ha; have KU := Lib.hid eu
    clear h2 h3 h4 ha eu ek eb2 hne
    go_enter Tryz.func33, Tryz.ntmps33
    go_wp2_with (first | (go_at_call 34; (with_reducible refine hli.mono ?_); rintro e w' ⟨rfl, rfl⟩) | (go_at_call 54; (with_reducible refine hb.mono ?_); rintro e w' ⟨rfl, rfl⟩) | (go_at_call 54; (with_reducible refine hb2.mono ?_); rintro e w' ⟨rfl, rfl⟩))
    all_goals
      go_ret
      refine ⟨ret_str ?_, rfl⟩
      unfold dirL
      rw [KU.out, if_neg (noempty_ne KA.out)]
end Go.Proofs.YtomckoldfdeidaaGreatDoor

/- package tree: an item by itself. -/
namespace Go.Proofs.YtomckoldfdeidaaGreatDoor
open Go.RowKit

theorem mode_Right (m : Int) (w : World) :
    Calls Tryz.prog 52 #[.int .i64 m] w fun e w' => e = .returned (.bool (modeB m)) ∧ w = w' := by
  go_enter Tryz.func52, Tryz.ntmps52
  go_wp2
  all_goals
    go_ret
    refine ⟨ret_bool ?_, rfl⟩
    unfold modeB
    simp [*]
    try (intros; omega)

set_option maxHeartbeats 800000 in
set_option maxRecDepth 100000 in
theorem item_body (p d s : ByteArray) (k m : Int) (w : World) :
    Calls Tryz.prog 53 #[.agg #[.string p, .int .i64 k, .int .i64 m, .string d, .string s]] w fun e w' => e = .returned (.int .i64 (bodyE ⟨p, k, m, d, s⟩)) ∧ Below w.heap.size w w' := by
  cases hr : rightL d.data.toList
  all_goals
    have HR := Lib.hid hr
    go_enter Tryz.func53, Tryz.ntmps53
    go_wp2_with (go_at_call 63; refine (path_Right _ _).mono ?_; rintro e w' ⟨rfl, rfl⟩; rw [hr])
  all_goals
    go_ret
    refine ⟨ret_int ?_, (Below.refl _ _).alloc (Nat.le_refl _) _⟩
    go_light
    have hr := HR.out
    clear HR
    simp_all [bodyE]
    try omega
end Go.Proofs.YtomckoldfdeidaaGreatDoor

/- package uu: Encode. -/
namespace Go.Proofs.YtomckoldfdeidaaGreatDoor
open Go.RowKit

theorem bat_below {T e : TypeId} {B b : Nat} {bs : List Value} {w w' : World} (h : Lib.IsBuilder T e B b bs w) (hb : Below w.heap.size w w') : Lib.IsBuilder T e B b bs w' := by
  rcases h with h | h
  · obtain ⟨h1, v, h2, h3, h4⟩ := h
    refine .inl ⟨h1, v, ?_, own_below h3 hb, h4⟩
    rw [← h2]
    exact hb.block b (Lib.BuilderAt.lt (p := .pointer none) ⟨h1, v, h2, h3, h4⟩)
  · obtain ⟨h1, v, h2, h3, h4⟩ := h
    refine .inr ⟨h1, v, ?_, own_below h3 hb, h4⟩
    rw [← h2]
    exact hb.block b (Lib.BuilderAt.lt (p := .pointer (some ⟨b, 0, none⟩)) ⟨h1, v, h2, h3, h4⟩)

theorem cells_app (a b : List UInt8) : Lib.byteCells a ++ Lib.strCells ⟨b.toArray⟩ = Lib.byteCells (a ++ b) := by
  simp [Lib.byteCells, Lib.strCells]

def sizeV : Value → Nat
  | .string s => s.size
  | _ => 0

set_option maxRecDepth 100000 in
set_option maxHeartbeats 3200000 in
theorem uu_Encode (s : ByteArray) (hs : s.size ≤ 1000000) (w : World) :
    Calls Tryz.prog 40 #[.int .i64 384, .string ⟨#[120]⟩, .string s] w fun e w' => e = .returned (.tuple #[.string ⟨(encL s.data.toList).toArray⟩, .int .i64 0]) ∧ Below w.heap.size w w' := by
  have hmode := mode_Right 384 w
  have hpath := path_Right ⟨#[120]⟩ w
  have hoct0 := mode_Octal 384 (by decide)
  have hnl0 := Tryz.strings_IndexByte ⟨#[120]⟩ 10
  rw [show modeB 384 = true by decide] at hmode
  rw [show rightL (⟨#[120]⟩ : ByteArray).data.toList = true by decide] at hpath
  have hnl : ∀ w, Calls Tryz.prog 64 #[.string ⟨#[120]⟩, .int .u8 10] w fun e w' => e = .returned (.int .i64 (-1)) ∧ w' = w := by
    intro w; have := hnl0 w; rw [show Lib.indexByte (⟨#[120]⟩ : ByteArray).data.toList (10 : Int).toNat.toUInt8 = -1 by decide] at this; exact this
  have hoct : ∀ w, Calls Tryz.prog 66 #[.int .i64 384] w fun e w' => e = .returned (.string ⟨#[48, 54, 48, 48]⟩) ∧ Below w.heap.size w w' := by
    intro w; have := hoct0 w; rw [show octL 384 = [48, 54, 48, 48] by decide] at this; exact this
  clear hnl0 hoct0
  go_enter Tryz.func40, Tryz.ntmps40
  go_wp2_with (first | (go_at_call 52; (with_reducible refine hmode.mono ?_); rintro e w ⟨rfl, rfl⟩) | (go_at_call 63; (with_reducible refine hpath.mono ?_); rintro e w ⟨rfl, rfl⟩) | (go_at_call 64; (with_reducible refine (hnl _).mono ?_); rintro e w ⟨rfl, rfl⟩) | (go_at_call 66; (with_reducible refine (hoct _).mono ?_)))
  rintro e w1 ⟨rfl, hb1⟩
  have hbd1 := bat_below (Lib.fresh_isBuilder 99 5 w) hb1
  have hbel1 : Below w.heap.size w w1 := ((Below.refl _ _).alloc (Nat.le_refl _) _).trans (hb1.mono (by simp))
  have HBD := Lib.hid hbd1; have HB1 := Lib.hid hbel1
  have hsz1 := hbel1.size
  clear hbd1 hbel1 hb1 hoct hpath hnl hmode
  go_wp2_with (go_at_call 65; refine (bld_WriteString w.heap.size w.heap.size _ _ _ HBD.out (by decide) hsz1).mono ?_)
  rintro e w2 ⟨rfl, hbd2, hb2⟩
  have hbd3 : Lib.IsBuilder 99 5 w.heap.size w.heap.size (Lib.byteCells [98, 101, 103, 105, 110, 32, 54, 48, 48, 32, 120, 10]) w2 := .inr hbd2
  have hbel2 : Below w.heap.size w w2 := HB1.out.trans hb2
  have HBD2 := Lib.hid hbd3; have HB2 := Lib.hid hbel2
  clear hbd2 hb2 hbd3 hbel2 HBD HB1 hsz1
  go_wp2
  go_loopw [2, 9] (fun v _ wr => ∃ (r : ByteArray) (bs : List UInt8), v = .string r ∧ r.size ≤ s.size ∧ bs.length + (linesL r.data.toList).length ≤ 5000000 ∧ bs ++ linesL r.data.toList = [98, 101, 103, 105, 110, 32, 54, 48, 48, 32, 120, 10] ++ linesL s.data.toList ∧ Lib.IsBuilder 99 5 w.heap.size w.heap.size (Lib.byteCells bs) wr ∧ Below w.heap.size w wr) (fun v _ _ => sizeV v)
  case atStart => 
    have hl := linesL_len _ s.data.toList rfl
    have := encN_le s.data.toList.length
    rw [← Lib.size_eq] at hl this
    exact ⟨s, _, rfl, Nat.le_refl _, by simp; omega, rfl, HBD2.out, HB2.out⟩
  case round =>
    obtain ⟨r, bs, rfl, hr, hlen, hcat, hbd, hbw⟩ := hrel
    by_cases h0 : r.size = 0
    · have hz : r = ⟨#[]⟩ := by
        apply ByteArray.ext; apply Array.ext'; exact List.eq_nil_of_length_eq_zero (by rw [← Lib.size_eq]; exact h0)
      subst hz
      have HBD := Lib.hid hbd; have HB := Lib.hid hbw
      clear hbd hbw
      have hline := uu_line ⟨#[]⟩ (by decide)
      rw [show (⟨(lineL (⟨#[]⟩ : ByteArray).data.toList).toArray⟩ : ByteArray) = ⟨#[96, 10]⟩ by decide] at hline
      go_wp2_with (go_at_call 67; refine (hline _).mono ?_)
      intro e w3 he hb3
      subst he
      have hbd3 := bat_below HBD.out hb3
      have hbel3 : Below w.heap.size w w3 := HB.out.trans (hb3.mono HB.out.size)
      have HBD3 := Lib.hid hbd3; have HB3 := Lib.hid hbel3
      have hsz3 := hbel3.size
      clear hbd3 hbel3 hb3 hline HBD HB
      have hlb : (Lib.byteCells bs).length = bs.length := by simp [Lib.byteCells]
      have HL := Lib.hid hlen; have HC := Lib.hid hcat
      clear hlen hcat
      go_wp2_with (go_at_call 65; refine (bld_WriteString w.heap.size w.heap.size _ _ _ HBD3.out (by rw [hlb]; have := HL.out; show _ + 6 ≤ _; omega) hsz3).mono ?_)
      rintro e w4 ⟨rfl, hbd4, hb4⟩
      have hbd5 : Lib.IsBuilder 99 5 w.heap.size w.heap.size (Lib.byteCells (bs ++ [96, 10, 101, 110, 100, 10])) w4 := by
        rw [← cells_app]; exact .inr hbd4
      have hsz4 := (HB3.out.trans hb4).size
      have hstr := Tryz.Builder_String_any _ _ _ _ hbd5 hsz4
      have HB4 := Lib.hid (HB3.out.trans hb4)
      clear hbd4 hbd5 hb4 HBD3 HB3
      go_wp2_with (go_at_call 68; refine hstr.mono ?_)
      rintro e w5 ⟨rfl, hb5⟩
      go_wp2
      go_ret2
      refine ⟨?_, HB4.out.trans hb5⟩
      have := HC.out
      rw [show linesL (⟨#[]⟩ : ByteArray).data.toList = [] from linesL_nil, List.append_nil] at this
      rw [this]
      rfl
    · obtain ⟨m, hm⟩ : ∃ m, m = min r.size 45 := ⟨_, rfl⟩
      have e : min (r.size : Int) 45 = (m : Int) := by omega
      have hm1 : 1 ≤ m := by omega
      have hmr : m ≤ r.size := by omega
      have hline := uu_line (r.extract 0 m) (by rw [ByteArray.size_extract]; omega)
      have hrs : r.data.toList ≠ [] := by intro q; apply h0; rw [Lib.size_eq, q]; rfl
      obtain ⟨a, ha⟩ : ∃ a, a = lineL (r.data.toList.take 45) := ⟨_, rfl⟩
      have hrz := Lib.size_eq r
      have hea : lineL (r.extract 0 m).data.toList = a := by
        rw [ha, Lib.extract_data]; congr 1
        rw [List.drop_zero, Nat.sub_zero, List.take_eq_take_iff]; omega
      have hcons : linesL r.data.toList = a ++ linesL (r.extract m r.size).data.toList := by
        rw [linesL_cons hrs, ha, Lib.extract_to_end]
        congr 2
        by_cases h45 : r.size ≤ 45
        · rw [List.drop_of_length_le (by omega), List.drop_of_length_le (by omega)]
        · rw [show m = 45 by omega]
      have hne : r.toList.isEmpty = false := by
        rw [ByteArray.toList_eq]
        cases hq : r.data.toList with
        | nil => exact absurd hq hrs
        | cons a b => rfl
      clear hrs hm hrz
      rw [hea] at hline
      have HBD := Lib.hid hbd; have HB := Lib.hid hbw; have HL := Lib.hid hlen; have HC := Lib.hid hcat; have HCC := Lib.hid hcons; have HR := Lib.hid hr
      clear hbd hbw hlen hcat ha hea hcons hr
      go_wp2_with (go_at_call 67; with_reducible refine (hline _).mono ?_)
      rintro e w3 ⟨he, hb3⟩
      subst he
      have hbd3 := bat_below HBD.out hb3
      have hbel3 : Below w.heap.size w w3 := HB.out.trans (hb3.mono HB.out.size)
      have HBD3 := Lib.hid hbd3; have HB3 := Lib.hid hbel3
      have hsz3 := hbel3.size
      clear hbd3 hbel3 hb3 hline HBD HB
      have hlb : (Lib.byteCells bs).length = bs.length := by simp [Lib.byteCells]
      have hsa : (⟨a.toArray⟩ : ByteArray).size = a.length := by simp [ByteArray.size]
      have hal : bs.length + a.length ≤ 5000000 := by have h1 := HL.out; have h2 := congrArg List.length HCC.out; simp at h2; omega
      go_wp2_with (go_at_call 65; refine (bld_WriteString w.heap.size w.heap.size _ _ _ HBD3.out (by rw [hlb, hsa]; omega) hsz3).mono ?_)
      rintro e w4 ⟨he, hbd4, hb4⟩
      subst he
      have hbd5 : Lib.IsBuilder 99 5 w.heap.size w.heap.size (Lib.byteCells (bs ++ a)) w4 := by
        rw [← cells_app]; exact .inr hbd4
      have HB4 := Lib.hid (HB3.out.trans hb4); have HBD5 := Lib.hid hbd5
      clear hbd4 hbd5 hb4 HBD3 HB3
      go_wp2
      go_roundw
      case rel =>
        refine ⟨_, bs ++ a, rfl, ?_, ?_, ?_, HBD5.out, HB4.out⟩
        · rw [ByteArray.size_extract]; have := HR.out; omega
        · have h1 := HL.out; rw [HCC.out] at h1; simp at h1 ⊢; omega
        · rw [← HC.out, HCC.out]; simp
      case measure =>
        show (r.extract m r.size).size < r.size
        rw [ByteArray.size_extract]; omega
end Go.Proofs.YtomckoldfdeidaaGreatDoor

/- strings.Builder whose bytes lie from R on: what lies between it and R is left alone. -/
namespace Go.Proofs.YtomckoldfdeidaaGreatDoor
open Go.RowKit

def BldR (R b : Nat) (p : Value) (bs : List Value) (w : World) : Prop :=
  ∃ v, w.heap[b]? = some (.cells #[p, v] 99 (0, 0)) ∧ w.ownsRow R 5 1 v bs.length bs ∧ v.ownBlock ≠ some b
def IsBldR (R b : Nat) (bs : List Value) (w : World) : Prop := BldR R b (.pointer none) bs w ∨ BldR R b (.pointer (some ⟨b, 0, none⟩)) bs w

/-- From B on things may change; of what lies below R, b alone. -/
structure KeptR (B R b : Nat) (w w' : World) : Prop where
  below : Below B w w'
  keep : ∀ i, i < R → i ≠ b → w'.heap[i]? = w.heap[i]?

theorem KeptR.trans {B R b : Nat} {w w' w'' : World} (h : KeptR B R b w w') (k : KeptR B R b w' w'') : KeptR B R b w w'' :=
  ⟨h.below.trans k.below, fun i hi hn => by rw [k.keep i hi hn, h.keep i hi hn]⟩

theorem own_base {w : World} {A B : Nat} {e : TypeId} {s n : Nat} {v : Value} {xs : List Value} (h : w.ownsRow A e s v n xs) (hB : B ≤ A) : w.ownsRow B e s v n xs := by
  rcases h with ⟨h1, h2 | ⟨g, cap, cur, r, hl, q⟩⟩
  · exact ⟨h1, .inl h2⟩
  · exact ⟨h1, .inr ⟨g, cap, cur, r, by omega, q⟩⟩

theorem BldR.at {B R b : Nat} {p : Value} {bs : List Value} {w : World} (h : BldR R b p bs w) (hB : B ≤ b) (hR : B ≤ R) : Lib.BuilderAt 99 5 B b p bs w := by
  obtain ⟨v, h1, h2, h3⟩ := h
  exact ⟨hB, v, h1, own_base h2 hR, h3⟩
theorem IsBldR.at {B R b : Nat} {bs : List Value} {w : World} (h : IsBldR R b bs w) (hB : B ≤ b) (hR : B ≤ R) : Lib.IsBuilder 99 5 B b bs w :=
  h.elim (fun x => .inl (x.at hB hR)) (fun x => .inr (x.at hB hR))

/-- The world behind copyCheck: its own, or the builder's first cell set. -/
theorem bldR_copyCheck (R b : Nat) (bs : List Value) (w : World) (h : IsBldR R b bs w) :
    Calls Tryz.prog 80 #[.pointer (some ⟨b, 0, none⟩)] w fun e w' => e = .returned (.tuple #[]) ∧ (BldR R b (.pointer (some ⟨b, 0, none⟩)) bs w' ∧ KeptR b R b w w' ∧ w'.heap.size = w.heap.size ∧ ∀ i, i ≠ b → w'.heap[i]? = w.heap[i]?) := by
  rcases h with h | h
  · obtain ⟨v, h1, h2, h3⟩ := h
    have ha : Lib.BuilderAt 99 5 (min b R) b (.pointer none) bs w := BldR.at ⟨v, h1, h2, h3⟩ (by omega) (by omega)
    refine (bld_check_fresh b w ha.cell0 ha.shape ha.frozen0).mono ?_
    rintro e w' ⟨rfl, rfl⟩
    refine ⟨rfl, ?_, ⟨(Below.refl b w).setCell (p := ⟨b, 0, none⟩) (Nat.le_refl _) _, fun i _ hn => Below.heap_setCell _ _ _ _ hn⟩, by simp [World.setCell], fun i hn => Below.heap_setCell _ _ _ _ hn⟩
    refine ⟨v, ?_, ?_, h3⟩
    · have := Lib.heap_setCell_same (i := 0) h1 (.pointer (some ⟨b, 0, none⟩))
      simpa using this
    · have hk : ∀ g, v.ownBlock = some g → g ≠ b := fun g hg q => h3 (q ▸ hg)
      rcases h2 with ⟨a1, a2 | ⟨g, cap, cur, rfl, hl, hg, q⟩⟩
      · exact ⟨a1, .inl a2⟩
      · exact ⟨a1, .inr ⟨g, cap, cur, rfl, hl, by rw [Below.heap_setCell _ _ _ _ (hk g rfl)]; exact hg, q⟩⟩
  · have ha : Lib.BuilderAt 99 5 (min b R) b (.pointer (some ⟨b, 0, none⟩)) bs w := h.at (by omega) (by omega)
    refine (bld_check_used b w ha.cell0).mono ?_
    rintro e w' ⟨rfl, rfl⟩
    exact ⟨rfl, h, ⟨Below.refl _ _, fun _ _ _ => rfl⟩, rfl, fun _ _ => rfl⟩

set_option maxHeartbeats 2000000 in
set_option maxRecDepth 100000 in
theorem bldR_WriteByte (R b : Nat) (bs : List Value) (c : Int) (w : World) (h : IsBldR R b bs w) (hlen : bs.length + 1 ≤ 140737488355328) (hR : R ≤ w.heap.size) (hbR : b < R) :
    Calls Tryz.prog 70 #[.pointer (some ⟨b, 0, none⟩), .int .u8 c] w fun e w' => e = .returned .nilIface ∧ (BldR R b (.pointer (some ⟨b, 0, none⟩)) (bs ++ [.int .u8 c]) w' ∧ KeptR b R b w w') := by
  obtain ⟨i0, hi, hz0, hz1, hz2⟩ := info_parts infoByte
  go_enter Tryz.func70, Tryz.ntmps70
  go_wp2_with (go_at_call 80; refine (bldR_copyCheck R b bs _ h).mono ?_)
  rintro e w1 ⟨rfl, h1, hb1, hs1, _⟩
  obtain ⟨v, hbk, hown, hne⟩ := h1
  have c0 : w1.cell? ⟨b, 0, none⟩ = some (.pointer (some ⟨b, 0, none⟩)) := by rw [Lib.cell_of_heap hbk]; rfl
  have c1 : w1.cell? ⟨b, 1, none⟩ = some v := by rw [Lib.cell_of_heap hbk]; rfl
  have HB1 := Lib.hid hb1
  have hs2 : w.heap.size ≤ w1.heap.size := by omega
  have hb2R : R ≤ w1.heap.size := by omega
  clear hb1 hs1
  go_wp2_with (at_builtin; refine wpList_append_own _ rfl _ _ 91 rfl R 5 i0 (.int .u8 0) 1 1 Tryz.underlying91 hi hz0 hz1 hz2 rfl (by decide) _ _ _ rfl (hown.alloc _) ⟨w1.heap.size, 0, none⟩ 1 1 [.int .u8 c] rfl rfl ?c1 ?c2 ?c3 ?c4 ?c5 ?_)
  case c1 =>
    intro j u hj
    match j, hj with
    | 0, hj => simp at hj; subst hj; simp [Addr.add]
  case c2 => intro u hu; simp at hu; subst hu; rfl
  case c3 => unfold maxLen; omega
  case c4 => omega
  case c5 => simp; omega
  intro v' w2 hown' hgrow _
  have hlt : b < w1.heap.size := by omega
  have hb2 : w2.heap[b]? = some (.cells #[.pointer (some ⟨b, 0, none⟩), v] 99 (0, 0)) := by
    rw [hgrow.block b (by simp; omega) (fun e => hne e.symm), Lib.alloc_old w1 _ b hlt]
    exact hbk
  have d0 : w2.cell? ⟨b, 0, none⟩ = some (.pointer (some ⟨b, 0, none⟩)) := by rw [Lib.cell_of_heap hb2]; rfl
  have d1 : w2.cell? ⟨b, 1, none⟩ = some v := by rw [Lib.cell_of_heap hb2]; rfl
  have f1 : w2.frozen? ⟨b, 1, none⟩ = false := Lib.frozen_of_heap hb2 1
  obtain ⟨g, cap, rfl⟩ : ∃ g cap, v' = .slice (some ⟨g, 0, none⟩) (bs.length + 1) cap := by
    rcases hown'.2 with ⟨_, h0⟩ | ⟨g, cap, cur, hv, _⟩
    · omega
    · exact ⟨g, cap, hv⟩
  go_wp2
  go_ret
  refine ⟨rfl, ?_, ?_, ?_⟩
  · have := Lib.BuilderAt.put (T := 99) (e := 5) (B := 0) (Nat.zero_le _) hb2 (bs' := bs ++ [.int .u8 c]) (own_base (by simpa using hown') (Nat.zero_le _)) (by decide)
    obtain ⟨_, v2, k1, _, k3⟩ := this
    have hg : g ≠ b := by
      have := (hown'.lt g rfl).1
      omega
    refine ⟨.slice (some ⟨g, 0, none⟩) (bs.length + 1) cap, ?_, ?_, by intro q; exact hg (Option.some.inj q)⟩
    · have := Lib.heap_setCell_same (i := 1) hb2 (.slice (some ⟨g, 0, none⟩) (bs.length + 1) cap)
      simpa using this
    · have q := own_base hown' (Nat.le_refl R)
      rcases q with ⟨a1, ⟨a2, _⟩ | ⟨g', cap', cur, hv, hl, hgg, q⟩⟩
      · exact absurd a2 (by simp)
      · obtain ⟨rfl, -, rfl⟩ : g = g' ∧ True ∧ cap = cap' := by injection hv with q1 q2 q3; injection q1 with q1; injection q1 with q1; exact ⟨q1, trivial, q3⟩
        refine ⟨by simp, .inr ⟨g, cap, cur, by simp, hl, by rw [Below.heap_setCell _ _ _ _ hg]; exact hgg, by simpa using q⟩⟩
  · exact ((HB1.out.below.alloc (by omega) _).grown hgrow (by simp; omega) (fun k hk => by have := (hown.lt k hk).1; omega)).setCell (p := ⟨b, 1, none⟩) (Nat.le_refl _) _
  · intro i hi hn
    rw [Below.heap_setCell _ _ _ _ hn, hgrow.block i (by simp; omega) (fun e => by have := (hown.lt i e.symm).1; omega), Lib.alloc_old w1 _ i (by omega), HB1.out.keep i hi hn]

set_option maxHeartbeats 2000000 in
set_option maxRecDepth 100000 in
theorem bldR_Write (R b : Nat) (bs news : List Value) (A : Addr) (m : Nat) (w : World) (h : IsBldR R b bs w) (hm : news.length = m) (h0 : 0 < m) (hA : A.block ≠ b)
    (hnews : ∀ (j : Nat) (u : Value), news[j]? = some u → w.cell? (A.add j) = some u) (hone : ∀ u ∈ news, u.oneCell' = true)
    (hlen : bs.length + m ≤ 140737488355328) (hR : R ≤ w.heap.size) (hbR : b < R) :
    Calls Tryz.prog 71 #[.pointer (some ⟨b, 0, none⟩), .slice (some A) m m] w fun e w' => e = .returned (.tuple #[.int .i64 m, .nilIface]) ∧ (BldR R b (.pointer (some ⟨b, 0, none⟩)) (bs ++ news) w' ∧ KeptR b R b w w') := by
  obtain ⟨i0, hi, hz0, hz1, hz2⟩ := info_parts infoByte
  go_enter Tryz.func71, Tryz.ntmps71
  go_wp2_with (go_at_call 80; refine (bldR_copyCheck R b bs _ h).mono ?_)
  rintro e w1 ⟨rfl, h1, hb1, hs1, hall⟩
  obtain ⟨v, hbk, hown, hne⟩ := h1
  have c0 : w1.cell? ⟨b, 0, none⟩ = some (.pointer (some ⟨b, 0, none⟩)) := by rw [Lib.cell_of_heap hbk]; rfl
  have c1 : w1.cell? ⟨b, 1, none⟩ = some v := by rw [Lib.cell_of_heap hbk]; rfl
  have HB1 := Lib.hid hb1
  have hs2 : w.heap.size ≤ w1.heap.size := by omega
  have hb2R : R ≤ w1.heap.size := by omega
  have HN : Hid (∀ (j : Nat) (u : Value), news[j]? = some u → w1.cell? (A.add j) = some u) := by
    intro j u hj
    rw [← hnews j u hj]
    exact World.cell?_of_block (hall _ (by unfold Addr.add; split <;> exact hA))
  clear hb1 hs1 hall hnews
  go_wp2_with (at_builtin; refine wpList_append_own _ rfl _ _ 91 rfl R 5 i0 (.int .u8 0) 1 1 Tryz.underlying91 hi hz0 hz1 hz2 rfl (by decide) _ _ _ rfl hown A m m news rfl (by omega) ?c1 ?c2 ?c3 ?c4 ?c5 ?_)
  case c1 => exact HN.out
  case c2 => exact hone
  case c3 => unfold maxLen; omega
  case c4 => omega
  case c5 => omega
  intro v' w2 hown' hgrow _
  have hlt : b < w1.heap.size := by omega
  have hb2 : w2.heap[b]? = some (.cells #[.pointer (some ⟨b, 0, none⟩), v] 99 (0, 0)) := by
    rw [hgrow.block b (by omega) (fun e => hne e.symm)]
    exact hbk
  have d0 : w2.cell? ⟨b, 0, none⟩ = some (.pointer (some ⟨b, 0, none⟩)) := by rw [Lib.cell_of_heap hb2]; rfl
  have d1 : w2.cell? ⟨b, 1, none⟩ = some v := by rw [Lib.cell_of_heap hb2]; rfl
  have f1 : w2.frozen? ⟨b, 1, none⟩ = false := Lib.frozen_of_heap hb2 1
  obtain ⟨g, cap, rfl⟩ : ∃ g cap, v' = .slice (some ⟨g, 0, none⟩) (bs.length + m) cap := by
    rcases hown'.2 with ⟨_, h0⟩ | ⟨g, cap, cur, hv, _⟩
    · omega
    · exact ⟨g, cap, hv⟩
  go_wp2
  go_ret2
  refine ⟨rfl, ?_, ?_, ?_⟩
  · have hg : g ≠ b := by
      have := (hown'.lt g rfl).1
      omega
    refine ⟨.slice (some ⟨g, 0, none⟩) (bs.length + m) cap, ?_, ?_, by intro q; exact hg (Option.some.inj q)⟩
    · have := Lib.heap_setCell_same (i := 1) hb2 (.slice (some ⟨g, 0, none⟩) (bs.length + m) cap)
      simpa using this
    · have q := own_base hown' (Nat.le_refl R)
      rcases q with ⟨a1, ⟨a2, _⟩ | ⟨g', cap', cur, hv, hl, hgg, q⟩⟩
      · exact absurd a2 (by simp)
      · obtain ⟨rfl, -, rfl⟩ : g = g' ∧ True ∧ cap = cap' := by injection hv with q1 q2 q3; injection q1 with q1; injection q1 with q1; exact ⟨q1, trivial, q3⟩
        refine ⟨by simp [hm], .inr ⟨g, cap, cur, by simp [hm], hl, by rw [Below.heap_setCell _ _ _ _ hg]; exact hgg, by simpa [hm] using q⟩⟩
  · exact ((HB1.out.below).grown hgrow (by omega) (fun k hk => by have := (hown.lt k hk).1; omega)).setCell (p := ⟨b, 1, none⟩) (Nat.le_refl _) _
  · intro i hi hn
    rw [Below.heap_setCell _ _ _ _ hn, hgrow.block i (by omega) (fun e => by have := (hown.lt i e.symm).1; omega), HB1.out.keep i hi hn]
end Go.Proofs.YtomckoldfdeidaaGreatDoor

/- package format: Escape. -/
namespace Go.Proofs.YtomckoldfdeidaaGreatDoor
open Go.RowKit Go.Joins

theorem escL_snoc (l : List UInt8) (c : UInt8) : escL (l ++ [c]) = escL l ++ esc1 c := by simp [escL]
theorem cells_one (c : UInt8) : [Value.int .u8 (c.toNat : Nat)] = Lib.byteCells [c] := by simp [Lib.byteCells]
theorem cells_cat (a b : List UInt8) : Lib.byteCells a ++ Lib.byteCells b = Lib.byteCells (a ++ b) := by simp [Lib.byteCells]

theorem wraps_u8 (n : Int) (h₀ : 0 ≤ n) (h₁ : n < 2 ^ 8) : IntKind.u8.wrap n = n := by rw [IntKind.wrap_u8]; omega
theorem and8 (m : Nat) (h : m < 256) : bits .and .u8 (m : Int) 7 = ((m % 8 : Nat) : Int) := by
  have := bits_mask .u8 8 (by decide) wraps_u8 3 (by decide) (m : Int) (by omega) (by omega)
  have e : (2 : Int) ^ 3 - 1 = 7 := by decide
  rw [e] at this
  rw [this]
  have e2 : (2 : Int) ^ 3 = 8 := by decide
  rw [e2]
  omega
def escV (c : UInt8) : List Value := [.int .u8 92, .int .u8 ((48 + (c.toNat : Int) / 64) % 256), .int .u8 ((48 + bits .and .u8 ((c.toNat : Int) / 8) 7) % 256), .int .u8 ((48 + bits .and .u8 (c.toNat : Int) 7) % 256)]
theorem escV_eq (c : UInt8) (h : plc c = false) : escV c = Lib.byteCells (esc1 c) := by
  have hc := c.toNat_lt
  unfold escV esc1
  rw [h, if_neg (by decide)]
  rw [show (c.toNat : Int) / 8 = ((c.toNat / 8 : Nat) : Int) by omega, and8 _ (by omega), and8 _ (by omega)]
  have a1 : (UInt8.ofNat (48 + c.toNat / 64)).toNat = 48 + c.toNat / 64 := by rw [UInt8.toNat_ofNat']; omega
  have a2 : (UInt8.ofNat (48 + c.toNat / 8 % 8)).toNat = 48 + c.toNat / 8 % 8 := by rw [UInt8.toNat_ofNat']; omega
  have a3 : (UInt8.ofNat (48 + c.toNat % 8)).toNat = 48 + c.toNat % 8 := by rw [UInt8.toNat_ofNat']; omega
  simp only [Lib.byteCells, List.map_cons, List.map_nil, a1, a2, a3]
  have b1 : (48 + (c.toNat : Int) / 64) % 256 = ((48 + c.toNat / 64 : Nat) : Int) := by omega
  have b2 : (48 + ((c.toNat / 8 % 8 : Nat) : Int)) % 256 = ((48 + c.toNat / 8 % 8 : Nat) : Int) := by omega
  have b3 : (48 + ((c.toNat % 8 : Nat) : Int)) % 256 = ((48 + c.toNat % 8 : Nat) : Int) := by omega
  rw [b1, b2, b3]; rfl

theorem IsBldR.alloc {R b : Nat} {bs : List Value} {w : World} (h : IsBldR R b bs w) (o : Obj) : IsBldR R b bs (w.alloc o) := by
  have key : ∀ p, BldR R b p bs w → BldR R b p bs (w.alloc o) := by
    rintro p ⟨v, h1, h2, h3⟩
    refine ⟨v, ?_, h2.alloc o, h3⟩
    rcases Nat.lt_or_ge b w.heap.size with q | q
    · rw [Lib.alloc_old w o b q]; exact h1
    · rw [Array.getElem?_eq_none q] at h1; cases h1
  exact h.elim (fun x => .inl (key _ x)) (fun x => .inr (key _ x))

set_option maxRecDepth 100000 in
set_option maxHeartbeats 3200000 in
theorem format_Escape (s : ByteArray) (w : World) (hs : s.size ≤ 1000000) :
    Calls Tryz.prog 41 #[.string s] w fun e w' => e = .returned (.string ⟨(escL s.data.toList).toArray⟩) ∧ Below w.heap.size w w' := by
  obtain ⟨wa, hwa⟩ : ∃ wa, wa = w.alloc (.cells #[.pointer none, .slice none 0 0] 99) := ⟨_, rfl⟩
  have hcv := Lib.run_convert_string_bytes (P := Tryz.prog) wa 9 91 5 s Tryz.underlying9 Tryz.underlying91 Tryz.underlying5
  rw [hwa] at hcv
  go_enter Tryz.func41, Tryz.ntmps41
  go_wp2
  have hbw0 : Below w.heap.size w (Lib.bytesWorld (w.alloc (.cells #[.pointer none, .slice none 0 0] 99)) 5 s) :=
    ((Below.refl _ _).alloc (Nat.le_refl _) _).trans (below_bytesWorld w.heap.size _ 5 s (by simp))
  have hcell0 : ∀ k, k < s.size → (Lib.bytesWorld (w.alloc (.cells #[.pointer none, .slice none 0 0] 99)) 5 s).cell? ⟨w.heap.size + 1, k, none⟩ = some (.int .u8 (s.data.toList.getD k 0).toNat) := by
    intro k hk
    have := Lib.bytesWorld_cell (w.alloc (.cells #[.pointer none, .slice none 0 0] 99)) 5 s k hk
    simpa using this
  have hsz0 : w.heap.size + 2 ≤ (Lib.bytesWorld (w.alloc (.cells #[.pointer none, .slice none 0 0] 99)) 5 s).heap.size := by
    have h := Lib.bytesWorld_at_new (w.alloc (.cells #[.pointer none, .slice none 0 0] 99)) 5 s
    rcases Nat.lt_or_ge (w.heap.size + 1) (Lib.bytesWorld (w.alloc (.cells #[.pointer none, .slice none 0 0] 99)) 5 s).heap.size with q | q
    · exact q
    · rw [Array.getElem?_eq_none (by simpa using q)] at h; cases h
  have hbd0 : IsBldR (w.heap.size + 2) w.heap.size [] (Lib.bytesWorld (w.alloc (.cells #[.pointer none, .slice none 0 0] 99)) 5 s) := by
    refine .inl ⟨.slice none 0 0, ?_, ⟨rfl, .inl ⟨rfl, rfl⟩⟩, by simp [Value.ownBlock]⟩
    have h2 := (below_bytesWorld (w.heap.size + 1) (w.alloc (.cells #[.pointer none, .slice none 0 0] 99)) 5 s (by simp)).block w.heap.size (by omega)
    rw [h2]; exact (MapKept.heap_alloc w _).1
  have HCC := Lib.hid hcell0; have HBB := Lib.hid hbd0; have HWW := Lib.hid hbw0; have HSS := Lib.hid hsz0
  clear hcell0 hbd0 hbw0 hsz0 hcv hwa wa
  generalize Lib.bytesWorld (w.alloc (.cells #[.pointer none, .slice none 0 0] 99)) 5 s = wb at *
  go_loopw [5, 9] (fun _ i wr => ∃ k : Nat, k ≤ s.size ∧ i = .int .i64 k ∧ IsBldR (w.heap.size + 2) w.heap.size (Lib.byteCells (escL (s.data.toList.take k))) wr ∧ Hid (∀ k, k < s.size → wr.cell? ⟨w.heap.size + 1, k, none⟩ = some (.int .u8 (s.data.toList.getD k 0).toNat)) ∧ Below w.heap.size w wr ∧ w.heap.size + 2 ≤ wr.heap.size) (fun _ i _ => s.size - (intOf i).toNat)
  case atStart => exact ⟨0, Nat.zero_le _, rfl, HBB.out, HCC, HWW.out, HSS.out⟩
  case round =>
    obtain ⟨k, hk, rfl, hbd, hcl, hbw, hsz⟩ := hrel
    have hb := (escN_le (s.data.toList.take k)).2
    have hl : (s.data.toList.take k).length ≤ k := List.length_take_le _ _
    have hlen : (Lib.byteCells (escL (s.data.toList.take k))).length ≤ 4000000 := by simp [Lib.byteCells, escL_len]; omega
    clear hb hl
    by_cases hlt : k < s.size
    · have hcell := hcl.out k hlt
      have hget := Lib.data_getElem? s k hlt
      obtain ⟨c, hc⟩ : ∃ c, c = s[k] := ⟨_, rfl⟩
      rw [← hc] at hget
      rw [show s.data.toList.getD k 0 = c by rw [List.getD_eq_getElem?_getD, hget]; rfl] at hcell
      have hsn : escL (s.data.toList.take (k + 1)) = escL (s.data.toList.take k) ++ esc1 c := by
        rw [List.take_add_one, hget]; exact escL_snoc _ c
      have HS := Lib.hid hsn; have HBD := Lib.hid hbd; have HBW := Lib.hid hbw
      clear hget hc hsn hbd hbw
      have hpl := format_plain c
      cases hok : plc c
      · rw [hok] at hpl
        have HO := Lib.hid hok; clear hok
        go_wp2_with (first | (go_at_call 69; (with_reducible refine (hpl _).mono ?_); rintro e w' ⟨rfl, rfl⟩) | (go_at_call 71; (with_reducible refine (bldR_Write (w.heap.size + 2) w.heap.size _ (escV c) _ 4 _ (HBD.out.alloc _) rfl (Nat.zero_lt_succ 3) (by show wr.heap.size ≠ _; omega) ?n1 ?n2 (by omega) (by simp; omega) (by omega)).mono ?_)))
        case n1 =>
          intro j u hj
          unfold escV at hj
          match j, hj with
          | 0, hj => simp at hj; subst hj; simp [Addr.add]
          | 1, hj => simp at hj; subst hj; simp [Addr.add]
          | 2, hj => simp at hj; subst hj; simp [Addr.add]
          | 3, hj => simp at hj; subst hj; simp [Addr.add]
        case n2 => intro u hu; unfold escV at hu; simp at hu; rcases hu with h | h | h | h <;> subst h <;> rfl
        rintro e w2 ⟨rfl, hbd2, hk2⟩
        have hbd3 : IsBldR (w.heap.size + 2) w.heap.size (Lib.byteCells (escL (s.data.toList.take (k + 1)))) w2 := by
          refine .inr ?_
          rw [HS.out, ← cells_cat, ← escV_eq c HO.out]
          exact hbd2
        have hcl2 : Hid (∀ k, k < s.size → w2.cell? ⟨w.heap.size + 1, k, none⟩ = some (.int .u8 (s.data.toList.getD k 0).toNat)) := by
          intro k hk
          rw [← hcl.out k hk]
          exact World.cell?_of_block ((hk2.keep _ (by show w.heap.size + 1 < _; omega) (by show w.heap.size + 1 ≠ _; omega)).trans (Lib.alloc_old _ _ _ (by show w.heap.size + 1 < _; omega)))
        have HBD2 := Lib.hid hbd3; have HB2 := Lib.hid ((HBW.out.alloc (by omega) _).trans hk2.below)
        have hs2 := hk2.below.size
        simp at hs2
        clear hbd2 hbd3 hk2 HBD HBW
        go_wp2
        go_roundw
        case rel => exact ⟨k + 1, by omega, by go_num, HBD2.out, hcl2, HB2.out, by omega⟩
        case measure => simp [intOf]; omega
      · rw [hok] at hpl
        have HO := Lib.hid hok; clear hok
        go_wp2_with (first | (go_at_call 69; (with_reducible refine (hpl _).mono ?_); rintro e w' ⟨rfl, rfl⟩) | (go_at_call 70; with_reducible refine (bldR_WriteByte (w.heap.size + 2) w.heap.size _ _ _ HBD.out (by omega) hsz (by omega)).mono ?_))
        rintro e w2 ⟨rfl, hbd2, hk2⟩
        have hbd3 : IsBldR (w.heap.size + 2) w.heap.size (Lib.byteCells (escL (s.data.toList.take (k + 1)))) w2 := by
          refine .inr ?_
          rw [HS.out, ← cells_cat]
          rw [show esc1 c = [c] by unfold esc1; rw [HO.out]; rfl, ← cells_one]
          exact hbd2
        have hcl2 : Hid (∀ k, k < s.size → w2.cell? ⟨w.heap.size + 1, k, none⟩ = some (.int .u8 (s.data.toList.getD k 0).toNat)) := by
          intro k hk
          rw [← hcl.out k hk]
          exact World.cell?_of_block (hk2.keep _ (by show w.heap.size + 1 < _; omega) (by show w.heap.size + 1 ≠ _; omega))
        have HBD2 := Lib.hid hbd3; have HB2 := Lib.hid (HBW.out.trans hk2.below)
        have hs2 := hk2.below.size
        clear hbd2 hbd3 hk2 HBD HBW
        go_wp2
        go_roundw
        case rel => exact ⟨k + 1, by omega, by go_num, HBD2.out, hcl2, HB2.out, by omega⟩
        case measure => simp [intOf]; omega
    · have hstr := Tryz.Builder_String_any _ _ _ _ (hbd.at (B := w.heap.size) (Nat.le_refl _) (by omega)) (by omega)
      rw [List.take_of_length_le (by rw [← Lib.size_eq]; omega)] at hstr
      have HBW := Lib.hid hbw
      clear hbd hbw
      go_wp2_with (go_at_call 68; with_reducible refine hstr.mono ?_)
      rintro e w2 ⟨rfl, hb2⟩
      go_wp2
      go_ret
      exact ⟨rfl, HBW.out.trans hb2⟩
end Go.Proofs.YtomckoldfdeidaaGreatDoor

/- package plan: tell, first. -/
namespace Go.Proofs.YtomckoldfdeidaaGreatDoor
open Go.RowKit

theorem tup2 {a b c d : Value} (h : a = c) (k : b = d) : Ending.returned (.tuple #[a, b]) = .returned (.tuple #[c, d]) := by rw [h, k]

set_option maxRecDepth 100000 in
set_option maxHeartbeats 1600000 in
theorem plan_tell (way : Int) (s : ByteArray) (hs : s.size ≤ 1000000) (w : World) :
    Calls Tryz.prog 23 #[.int .i64 way, .string s] w fun e w' => e = .returned (.tuple #[.string ⟨(tellL way s.data.toList).toArray⟩, .int .i64 0]) ∧ Below w.heap.size w w' := by
  have henc := uu_Encode s hs
  have hesc := fun w => format_Escape s w hs
  have t1 : way = 1 → tellL way s.data.toList = s.data.toList := fun h => by unfold tellL; rw [if_pos h]
  have t2 : ¬ way = 1 → way = 2 → tellL way s.data.toList = encL s.data.toList := fun h k => by unfold tellL; rw [if_neg h, if_pos k]
  have t3 : ¬ way = 1 → ¬ way = 2 → tellL way s.data.toList = escL s.data.toList := fun h k => by unfold tellL; rw [if_neg h, if_neg k]
  have T1 := Lib.hid t1; have T2 := Lib.hid t2; have T3 := Lib.hid t3
  clear t1 t2 t3
  go_enter Tryz.func23, Tryz.ntmps23
  go_wp2_with (first | (go_at_call 40; with_reducible refine (henc _).mono ?_) | (go_at_call 41; with_reducible refine (hesc _).mono ?_))
  · go_ret2
    have h1 : way = 1 := by first | assumption | (simp_all; done) | omega
    refine ⟨tup2 ?_ rfl, Below.refl _ _⟩
    rw [T1.out h1]; rfl
  · have h1 : ¬ way = 1 := by first | assumption | (simp_all; done) | omega
    have h2 : way = 2 := by first | assumption | (simp_all; done) | omega
    rintro e w2 ⟨rfl, hb2⟩
    go_wp2
    go_ret2
    exact ⟨tup2 (by rw [T2.out h1 h2]; rfl) rfl, hb2⟩
  · have h1 : ¬ way = 1 := by first | assumption | (simp_all; done) | omega
    have h2 : ¬ way = 2 := by first | assumption | (simp_all; done) | omega
    rintro e w2 ⟨rfl, hb2⟩
    go_wp2
    go_ret2
    exact ⟨tup2 (by rw [T3.out h1 h2]; rfl) rfl, hb2⟩

def firstN (s : ByteArray) : Nat :=
  if 0 ≤ Lib.lastIndexByte (s.extract 0 (min s.size 20000)) 10 ∧ textB (s.data.toList.take ((Lib.lastIndexByte (s.extract 0 (min s.size 20000)) 10) + 1).toNat) = true
  then ((Lib.lastIndexByte (s.extract 0 (min s.size 20000)) 10) + 1).toNat else min s.size 20000

set_option maxRecDepth 100000 in
set_option maxHeartbeats 1600000 in
theorem plan_first (s : ByteArray) (hs : s.size ≤ 1000000000) (w : World) :
    Calls Tryz.prog 21 #[.string s] w fun e w' => e = .returned (.int .i64 (firstN s)) ∧ Below w.heap.size w w' := by
  obtain ⟨m, hm⟩ : ∃ m, m = min s.size 20000 := ⟨_, rfl⟩
  have e : min (s.size : Int) 20000 = (m : Int) := by omega
  have hms : m ≤ s.size := by omega
  have hpz : (s.extract 0 m).size = m := by rw [ByteArray.size_extract]; omega
  have hli := Tryz.strings_LastIndexByte (s.extract 0 m) 10 (by rw [hpz]; omega)
  have hspec : Lib.lastIndexByte (s.extract 0 m) 10 = -1 ∨ ∃ k : Nat, k < m ∧ Lib.lastIndexByte (s.extract 0 m) 10 = k := by
    rcases Lib.lastIndexByte_spec (s.extract 0 m) 10 with ⟨h1, _⟩ | ⟨k, h1, h2, _⟩
    · exact .inl h1
    · exact .inr ⟨k, by omega, h2⟩
  have hF : firstN s = if 0 ≤ Lib.lastIndexByte (s.extract 0 m) 10 ∧ textB (s.data.toList.take ((Lib.lastIndexByte (s.extract 0 m) 10) + 1).toNat) = true then ((Lib.lastIndexByte (s.extract 0 m) 10) + 1).toNat else m := by
    unfold firstN; rw [← hm]
  rcases hspec with h1 | ⟨k, hk, h1⟩
  · rw [h1] at hli hF
    rw [if_neg (by omega)] at hF
    have HF := Lib.hid hF
    clear hm hpz h1 hF
    go_enter Tryz.func21, Tryz.ntmps21
    go_wp2_with (first | (go_at_call 34; with_reducible refine (hli _).mono ?_; rintro e w ⟨rfl, rfl⟩))
    go_ret
    refine ⟨ret_int ?_, Below.refl _ _⟩
    rw [HF.out]
  · rw [h1] at hli hF
    have htx := gain_Text (s.extract 0 (k + 1))
    have hxx : (s.extract 0 (k + 1)).data.toList = s.data.toList.take (k + 1) := by rw [Lib.extract_data]; simp
    rw [hxx] at htx
    have hkk : ((k : Int) + 1).toNat = k + 1 := by omega
    rw [hkk] at hF
    have hwr : IntKind.i64.wrap ((k : Int) + 1) = (k : Int) + 1 := IntWalk.i64_in _ (by omega)
    have hk0 : (0 : Int) ≤ k := by omega
    cases hok : textB (s.data.toList.take (k + 1))
    · rw [hok] at htx hF
      rw [if_neg (by simp)] at hF
      have HF := Lib.hid hF
      clear hm hpz h1 hF hok
      go_enter Tryz.func21, Tryz.ntmps21
      go_wp2_with (first | (go_at_call 34; with_reducible refine (hli _).mono ?_; rintro e w ⟨rfl, rfl⟩) | (go_at_call 35; with_reducible refine (htx _ (by rw [ByteArray.size_extract]; omega)).mono ?_))
      rintro e w2 ⟨rfl, hb2⟩
      go_wp2
      go_ret
      exact ⟨ret_int (by rw [HF.out]), hb2⟩
    · rw [hok] at htx hF
      rw [if_pos ⟨by omega, rfl⟩] at hF
      have HF := Lib.hid hF
      clear hm hpz h1 hF hok
      go_enter Tryz.func21, Tryz.ntmps21
      go_wp2_with (first | (go_at_call 34; with_reducible refine (hli _).mono ?_; rintro e w ⟨rfl, rfl⟩) | (go_at_call 35; with_reducible refine (htx _ (by rw [ByteArray.size_extract]; omega)).mono ?_))
      rintro e w2 ⟨rfl, hb2⟩
      go_wp2
      go_ret
      exact ⟨ret_int (by rw [HF.out]; omega), hb2⟩

theorem firstN_ok (s : ByteArray) (h : 1 ≤ s.size) : 1 ≤ firstN s ∧ firstN s ≤ s.size ∧ firstN s ≤ 20000 := by
  have hpz : (s.extract 0 (min s.size 20000)).size = min s.size 20000 := by rw [ByteArray.size_extract]; omega
  unfold firstN
  split
  · rename_i q
    rcases Lib.lastIndexByte_spec (s.extract 0 (min s.size 20000)) 10 with ⟨h1, _⟩ | ⟨k, h1, h2, _⟩
    · omega
    · omega
  · omega
end Go.Proofs.YtomckoldfdeidaaGreatDoor

/- PLAIN WORDS: the parts of a file. -/
namespace Go.Proofs.YtomckoldfdeidaaGreatDoor
open Go.RowKit

structure Pt where
  file : Int
  way : Int
  text : List UInt8

def Pt.cells (p : Pt) : List Value := [.int .i64 p.file, .int .i64 p.way, .string ⟨p.text.toArray⟩]
def partCells (ps : List Pt) : List Value := ps.flatMap Pt.cells
theorem partCells_len (ps : List Pt) : (partCells ps).length = ps.length * 3 := by
  unfold partCells
  induction ps with
  | nil => rfl
  | cons a r ih => simp only [List.flatMap_cons, List.length_append, ih, Pt.cells, List.length_cons, List.length_nil]; omega
theorem partCells_snoc (ps : List Pt) (p : Pt) : partCells (ps ++ [p]) = partCells ps ++ p.cells := by simp [partCells]

/-- The parts of a file from some bytes on: the error, the parts. -/
def fileE (k : Int) (ways : List Int) (s : ByteArray) : Int × List Pt :=
  if _h : s.size = 0 then (0, [])
  else if (bestE (s.data.toList.take (firstN s)) ways).2 ≠ 0 then ((bestE (s.data.toList.take (firstN s)) ways).2, [])
  else ((fileE k ways (s.extract (firstN s) s.size)).1, ⟨k, (bestE (s.data.toList.take (firstN s)) ways).1, tellL (bestE (s.data.toList.take (firstN s)) ways).1 (s.data.toList.take (firstN s))⟩ :: (fileE k ways (s.extract (firstN s) s.size)).2)
termination_by s.size
decreasing_by
  all_goals
    have := firstN_ok s (by omega)
    rw [ByteArray.size_extract]; omega

theorem fileE_nil (k : Int) (ways : List Int) (s : ByteArray) (h : s.size = 0) : fileE k ways s = (0, []) := by rw [fileE, dif_pos h]
theorem fileE_bad (k : Int) (ways : List Int) (s : ByteArray) (h : s.size ≠ 0) (hb : (bestE (s.data.toList.take (firstN s)) ways).2 ≠ 0) : fileE k ways s = ((bestE (s.data.toList.take (firstN s)) ways).2, []) := by rw [fileE, dif_neg h, if_pos hb]
theorem fileE_more (k : Int) (ways : List Int) (s : ByteArray) (h : s.size ≠ 0) (hb : (bestE (s.data.toList.take (firstN s)) ways).2 = 0) :
    fileE k ways s = ((fileE k ways (s.extract (firstN s) s.size)).1, ⟨k, (bestE (s.data.toList.take (firstN s)) ways).1, tellL (bestE (s.data.toList.take (firstN s)) ways).1 (s.data.toList.take (firstN s))⟩ :: (fileE k ways (s.extract (firstN s) s.size)).2) := by
  rw [fileE, dif_neg h, if_neg (by simpa using hb)]

/-- A plan in its block: its tree and its files as they lie, its parts a row of its own from R on. -/
def PlanAt (R b : Nat) (vt vf : Value) (ps : List Pt) (w : World) : Prop :=
  ∃ vp, w.heap[b]? = some (.cells #[vt, vf, vp] 31 (0, 0)) ∧ w.ownsRow R 45 3 vp ps.length (partCells ps) ∧ b < R ∧ R ≤ w.heap.size

theorem PlanAt.below {R b : Nat} {vt vf : Value} {ps : List Pt} {w w' : World} (h : PlanAt R b vt vf ps w) (hb : Below w.heap.size w w') : PlanAt R b vt vf ps w' := by
  obtain ⟨vp, h1, h2, h3, h4⟩ := h
  exact ⟨vp, by rw [← h1]; exact hb.block b (by omega), own_below h2 hb, h3, by have := hb.size; omega⟩
end Go.Proofs.YtomckoldfdeidaaGreatDoor

/- package tree: (Item).shape; package path: bare, Dir of a plain path. -/
namespace Go.Proofs.YtomckoldfdeidaaGreatDoor
open Go.RowKit

set_option maxHeartbeats 800000 in
set_option maxRecDepth 100000 in
theorem item_shape (p d s : ByteArray) (k m : Int) (w : World) (hg : Glob w) :
    Calls Tryz.prog 32 #[.agg #[.string p, .int .i64 k, .int .i64 m, .string d, .string s]] w fun e w' => e = .returned (.int .i64 (aloneE ⟨p, k, m, d, s⟩)) ∧ Below w.heap.size w w' := by
  obtain ⟨o, ho⟩ : ∃ o, o = Obj.cells #[.string p, .int .i64 k, .int .i64 m, .string d, .string s] 42 := ⟨_, rfl⟩
  have hb0 : Below w.heap.size w (w.alloc o) := (Below.refl _ _).alloc (Nat.le_refl _) o
  have hg1 : Glob (w.alloc o) := hg.below hb0
  have hpl := path_Plain p (w.alloc o) hg1
  subst ho
  have HB0 := Lib.hid hb0; clear hb0
  cases hpp : plainL p.data.toList with
  | false =>
    rw [hpp] at hpl
    have HP := Lib.hid hpp
    go_enter Tryz.func32, Tryz.ntmps32
    go_wp2_with (go_at_call 51; refine hpl.mono ?_; rintro e w1 ⟨rfl, hb1⟩)
    go_ret
    refine ⟨ret_int ?_, HB0.out.trans (hb1.mono (by simp))⟩
    unfold aloneE
    simp [HP.out]
  | true =>
    rw [hpp] at hpl
    have HP := Lib.hid hpp
    cases hmm : modeB m
    all_goals
      have HM := Lib.hid hmm
      go_enter Tryz.func32, Tryz.ntmps32
      go_wp2_with (go_at_call 51; refine hpl.mono ?_)
      rintro e w1 ⟨rfl, hb1⟩
      have hb2 : Below w.heap.size w w1 := HB0.out.trans (hb1.mono (by simp))
      have hz : w.heap.size < w1.heap.size := by have := hb1.size; simp at this; omega
      have c0 : w1.cell? ⟨w.heap.size, 0, none⟩ = some (.string p) := (hb1.cell (p := ⟨w.heap.size, 0, none⟩) (by simp)).trans (by rw [World.cell?_alloc_at _ _ _ _ rfl]; rfl)
      have c1 : w1.cell? ⟨w.heap.size, 1, none⟩ = some (.int .i64 k) := (hb1.cell (p := ⟨w.heap.size, 1, none⟩) (by simp)).trans (by rw [World.cell?_alloc_at _ _ _ _ rfl]; rfl)
      have c2 : w1.cell? ⟨w.heap.size, 2, none⟩ = some (.int .i64 m) := (hb1.cell (p := ⟨w.heap.size, 2, none⟩) (by simp)).trans (by rw [World.cell?_alloc_at _ _ _ _ rfl]; rfl)
      have c3 : w1.cell? ⟨w.heap.size, 3, none⟩ = some (.string d) := (hb1.cell (p := ⟨w.heap.size, 3, none⟩) (by simp)).trans (by rw [World.cell?_alloc_at _ _ _ _ rfl]; rfl)
      have c4 : w1.cell? ⟨w.heap.size, 4, none⟩ = some (.string s) := (hb1.cell (p := ⟨w.heap.size, 4, none⟩) (by simp)).trans (by rw [World.cell?_alloc_at _ _ _ _ rfl]; rfl)
      have HB2 := Lib.hid hb2; clear hb2 hb1
      go_wp2_with (first | (go_at_call 52; refine (mode_Right _ _).mono ?_; rintro e w' ⟨rfl, rfl⟩; rw [hmm]) | (go_at_call 53; refine (item_body _ _ _ _ _ _).mono ?_; rintro e w3 ⟨rfl, hb3⟩))
    all_goals
      go_ret
      first
        | (refine ⟨ret_int ?_, HB2.out⟩; go_light; have hpp := HP.out; have hmm := HM.out; clear HP HM; simp_all [aloneE]; try omega; done)
        | (refine ⟨ret_int ?_, HB2.out.trans (hb3.mono (by omega))⟩; go_light; have hpp := HP.out; have hmm := HM.out; clear HP HM; simp_all [aloneE]; try omega; done)
end Go.Proofs.YtomckoldfdeidaaGreatDoor

/- MAPS, read as functions from keys to what they hold: what look-up, store and entry-store do. No program in sight. -/
namespace Go.Proofs.YtomckoldfdeidaaGreatDoor
open Go Go.RowKit Go.MapKept

structure Ents (d : TypeDesc) (es : Array MapEntry) (clock : Nat) (f : Value → Option Value) : Prop where
  st : Stamped es clock
  keys : ∀ e ∈ es.toList, IsKey d e.key
  has : ∀ s v, f s = some v ↔ ∃ e ∈ es.toList, e.key = s ∧ e.val = v

def MapAt (d : TypeDesc) (w : World) (b : Nat) (f : Value → Option Value) : Prop := ∃ es clock, w.heap[b]? = some (.map es clock) ∧ Ents d es clock f
open Classical in
noncomputable def upd (f : Value → Option Value) (k v : Value) : Value → Option Value := fun s => if s = k then some v else f s

section
variable {d : TypeDesc} {w w' : World} {b : Nat} {f : Value → Option Value}
theorem MapAt.lt (h : MapAt d w b f) : b < w.heap.size := by
  obtain ⟨es, clock, hb, _⟩ := h
  exact (Array.getElem?_eq_some_iff.1 hb).1
theorem MapAt.block (h : MapAt d w b f) (e : w'.heap[b]? = w.heap[b]?) : MapAt d w' b f := by
  obtain ⟨es, clock, hb, k⟩ := h
  exact ⟨es, clock, e.trans hb, k⟩
theorem MapAt.below {B : Nat} (h : MapAt d w b f) (hb : Below B w w') (hB : b < B) : MapAt d w' b f := h.block (hb.block b hB)
theorem MapAt.alloc (h : MapAt d w b f) (o : Obj) : MapAt d (w.alloc o) b f := h.block (Below.heap_alloc w o b h.lt)
theorem MapAt.drew (h : MapAt d w b f) : MapAt d w.drew b f := h
theorem MapAt.drewN (h : MapAt d w b f) (n : Nat) : MapAt d (w.drewN n) b f := h
theorem MapAt.setCell (h : MapAt d w b f) (a : Addr) (ha : a.block ≠ b) (v : Value) : MapAt d (w.setCell a v) b f := h.block (Below.heap_setCell w a v b (Ne.symm ha))
theorem MapAt.grown (h : MapAt d w b f) {row : Option Nat} (hg : w.grownBy w' row) (hne : some b ≠ row) : MapAt d w' b f := h.block (hg.block b h.lt hne)
theorem MapAt.made (d : TypeDesc) (w : World) : MapAt d (w.alloc (.map #[] 0)) w.heap.size (fun _ => none) :=
  ⟨#[], 0, (MapKept.heap_alloc w _).1, ⟨stamped_empty 0, by simp, by simp⟩⟩
end

section
variable {P : Program} {t k e : TypeId} {d : TypeDesc} {w : World} {b : Nat} {f : Value → Option Value}

theorem Ents.at (es : Array MapEntry) (clock : Nat) (h : Ents d es clock f) (key : Value) (hk : IsKey d key) :
    (Instr.findNow d key es.toList 0 = some none ∧ f key = none ∧ ∀ x ∈ es.toList, x.key ≠ key) ∨ (∃ (j : Nat) (e : MapEntry), Instr.findNow d key es.toList 0 = some (some (j, e.val)) ∧ es[j]? = some e ∧ e.key = key ∧ f key = some e.val) := by
  rcases findNow_spec hk es.toList 0 h.keys with ⟨h1, h2⟩ | ⟨j, e, h1, h2, h3⟩
  · refine .inl ⟨h1, ?_, h2⟩
    cases hv : f key with
    | none => rfl
    | some v =>
      obtain ⟨x, hx, hxk, _⟩ := (h.has key v).1 hv
      exact absurd hxk (h2 x hx)
  · exact .inr ⟨j, e, by simpa using h1, by simpa using h2, h3, (h.has key e.val).2 ⟨e, List.mem_of_getElem? h2, h3, rfl⟩⟩

theorem MapAt.look (h : MapAt d w b f) (ht : P.underlying t = some (.map k e)) (hd : P.underlying k = some d) {key : Value} (hk : IsKey d key) {z : Value} (hz : (zeroValue e).run P w = .ok z w) (ok : Bool) :
    (Instr.lookup t (.map (some b)) key ok).run P w = .ok (if ok then .tuple #[(f key).getD z, .bool (f key).isSome] else (f key).getD z) w := by
  obtain ⟨es, clock, hb, E⟩ := h
  rcases E.at es clock key hk with ⟨h1, h2, _⟩ | ⟨j, e', h1, h2, h3, h4⟩
  · simp [Instr.lookup, run_underlying ht, MapKept.run_getObj_map hb, MapKept.run_checkKey hd hk, MapKept.run_findKey hd h1, hz, h2, Result.andThen]
    try (cases ok <;> rfl)
  · simp [Instr.lookup, run_underlying ht, MapKept.run_getObj_map hb, MapKept.run_checkKey hd hk, MapKept.run_findKey hd h1, h4, Result.andThen]
    try (cases ok <;> rfl)

theorem grown_set {o o' : Obj} (hb : w.heap[b]? = some o) : w.grownBy { w with heap := w.heap.setIfInBounds b o' } (some b) :=
  ⟨rfl, rfl, rfl, by simp, fun i _ hi => (heap_set hb).2 i (fun e => hi (by rw [e]))⟩

theorem modify_get {es : Array MapEntry} {j : Nat} {e0 : MapEntry} (hj : es[j]? = some e0) (g : MapEntry → MapEntry) {x : MapEntry} : x ∈ (es.modify j g).toList ↔ x = g e0 ∨ ∃ i, i ≠ j ∧ es[i]? = some x := by
  constructor
  · intro hx
    obtain ⟨i, hi⟩ := List.mem_iff_getElem?.1 hx
    rw [Array.getElem?_toList, Array.getElem?_modify] at hi
    by_cases e : j = i
    · subst e; rw [if_pos rfl, hj] at hi; left; simpa using hi.symm
    · rw [if_neg e] at hi; exact .inr ⟨i, fun q => e q.symm, hi⟩
  · intro hx
    rcases hx with rfl | ⟨i, hi, hx⟩
    · refine List.mem_iff_getElem?.2 ⟨j, ?_⟩
      rw [Array.getElem?_toList, Array.getElem?_modify, if_pos rfl, hj]; rfl
    · refine List.mem_iff_getElem?.2 ⟨i, ?_⟩
      rw [Array.getElem?_toList, Array.getElem?_modify, if_neg (Ne.symm hi)]; exact hx

theorem key_once {es : Array MapEntry} {clock : Nat} (h : Stamped es clock) {i j : Nat} {x y : MapEntry} (hi : es[i]? = some x) (hj : es[j]? = some y) (he : x.key = y.key) : i = j := by
  have h3 := h.2.2
  have a : (es.toList.map (·.key))[i]? = some x.key := by simp [hi]
  have c : (es.toList.map (·.key))[j]? = some x.key := by simp [hj, he]
  exact (List.getElem?_inj (by have := (Array.getElem?_eq_some_iff.1 hi).1; simpa using this) h3).1 (a.trans c.symm)

/-- The entry at a place gets a value: the function there. -/
theorem Ents.modify {es : Array MapEntry} {clock : Nat} (h : Ents d es clock f) {j : Nat} {e0 : MapEntry} (hj : es[j]? = some e0) (g : MapEntry → MapEntry) (hg : (g e0).key = e0.key) (hgb : ∀ e, (g e).born = e.born) :
    Ents d (es.modify j g) clock (upd f e0.key (g e0).val) := by
  have hkey : ∀ e', es[j]? = some e' → (g e').key = e'.key := fun e' he' => by rw [hj] at he'; cases he'; exact hg
  refine ⟨stamped_modify h.st _ _ (fun e _ => hgb e) (fun e' _ he' => hkey e' he'), isKey_modify h.keys _ _ hkey, ?_⟩
  intro s v
  unfold upd
  constructor
  · intro hs
    split at hs
    · rename_i e; subst e
      exact ⟨g e0, (modify_get hj g).2 (.inl rfl), hg, by simpa using hs⟩
    · rename_i hne
      obtain ⟨x, hx, hxk, hxv⟩ := (h.has s v).1 hs
      obtain ⟨i, hi⟩ := List.mem_iff_getElem?.1 hx
      rw [Array.getElem?_toList] at hi
      refine ⟨x, (modify_get hj g).2 (.inr ⟨i, ?_, hi⟩), hxk, hxv⟩
      intro e; subst e; rw [hj] at hi; cases hi; exact hne hxk.symm
  · rintro ⟨x, hx, hxk, hxv⟩
    rcases (modify_get hj g).1 hx with rfl | ⟨i, hi, hx⟩
    · rw [if_pos (by rw [← hxk, hg])]; rw [hxv]
    · rw [if_neg ?_]
      · exact (h.has s v).2 ⟨x, List.mem_of_getElem? (by rw [Array.getElem?_toList]; exact hx), hxk, hxv⟩
      · intro e; exact hi (key_once h.st hx hj (by rw [hxk, e]))

theorem Ents.push {es : Array MapEntry} {clock : Nat} (h : Ents d es clock f) {key val : Value} (hk : IsKey d key) (hn : ∀ x ∈ es.toList, x.key ≠ key) :
    Ents d (es.push { key, val, born := clock }) (clock + 1) (upd f key val) := by
  refine ⟨stamped_push h.st hn, ?_, ?_⟩
  · intro x hx
    simp only [Array.toList_push, List.mem_append, List.mem_singleton] at hx
    rcases hx with hx | rfl
    · exact h.keys x hx
    · exact hk
  · intro s v
    unfold upd
    simp only [Array.toList_push, List.mem_append, List.mem_singleton]
    constructor
    · intro hs
      split at hs
      · rename_i e; subst e
        exact ⟨_, .inr rfl, rfl, by simpa using hs⟩
      · obtain ⟨x, hx, hxk, hxv⟩ := (h.has s v).1 hs
        exact ⟨x, .inl hx, hxk, hxv⟩
    · rintro ⟨x, hx | rfl, hxk, hxv⟩
      · rw [if_neg (fun e => hn x hx (by rw [hxk, e]))]
        exact (h.has s v).2 ⟨x, hx, hxk, hxv⟩
      · rw [if_pos hxk.symm]; exact congrArg some hxv

theorem MapAt.store (h : MapAt d w b f) (ht : P.underlying t = some (.map k e)) (hd : P.underlying k = some d) {key : Value} (hk : IsKey d key) (val : Value) :
    ∃ w', (Instr.mapUpdate t (.map (some b)) key val).run P w = .ok () w' ∧ MapAt d w' b (upd f key val) ∧ w.grownBy w' (some b) ∧ w'.heap.size = w.heap.size := by
  obtain ⟨es, clock, hb, E⟩ := h
  rcases E.at es clock key hk with ⟨h1, h2, h3⟩ | ⟨j, e', h1, h2, h3, h4⟩
  · refine ⟨_, ?_, ⟨_, _, (heap_set hb).1, E.push hk h3⟩, grown_set hb, by simp⟩
    simp [Instr.mapUpdate, run_underlying ht, MapKept.run_getObj_map hb, MapKept.run_checkKey hd hk, MapKept.run_findKey hd h1, MapKept.run_setObj_map _ hb, Result.andThen]
    try rfl
  · refine ⟨{ w with heap := w.heap.setIfInBounds b (.map (es.modify j fun e => { e with key, val }) clock) }, ?_, ⟨_, _, (heap_set hb).1, ?_⟩, grown_set hb, by simp⟩
    · simp [Instr.mapUpdate, run_underlying ht, MapKept.run_getObj_map hb, MapKept.run_checkKey hd hk, MapKept.run_findKey hd h1, h2, h3, MapKept.run_keyThatStays hk, MapKept.run_setObj_map _ hb, Result.andThen]
    · have := E.modify h2 (fun e => { e with key, val }) h3.symm (fun _ => rfl)
      rw [h3] at this
      exact this

/-- An entry is there, its value not yet stored. -/
def Pend (d : TypeDesc) (w : World) (b : Nat) (f : Value → Option Value) (key : Value) (stamp : Nat) : Prop :=
  ∃ (es : Array MapEntry) (clock j : Nat) (e0 : MapEntry) (v0 : Value), w.heap[b]? = some (.map es clock) ∧ Ents d es clock (upd f key v0) ∧ es[j]? = some e0 ∧ e0.key = key ∧ e0.born = stamp

theorem MapAt.entry (h : MapAt d w b f) (ht : P.underlying t = some (.map k e)) (hd : P.underlying k = some d) {key : Value} (hk : IsKey d key) {z : Value} (hz : (zeroValue e).run P w = .ok z w) :
    ∃ w' v stamp, (Instr.mapEntry t (.map (some b)) key).run P w = .ok (.tuple #[v, .int .i64 (stamp : Nat)]) w' ∧ Pend d w' b f key stamp ∧ w.grownBy w' (some b) ∧ w'.heap.size = w.heap.size := by
  obtain ⟨es, clock, hb, E⟩ := h
  rcases E.at es clock key hk with ⟨h1, h2, h3⟩ | ⟨j, e', h1, h2, h3, h4⟩
  · refine ⟨{ w with heap := w.heap.setIfInBounds b (.map (es.push { key, val := z, born := clock }) (clock + 1)) }, z, clock, ?_, ⟨_, _, es.size, { key, val := z, born := clock }, z, (heap_set hb).1, E.push hk h3, by simp, rfl, rfl⟩, grown_set hb, by simp⟩
    simp [Instr.mapEntry, run_underlying ht, MapKept.run_getObj_map hb, MapKept.run_checkKey hd hk, MapKept.run_findKey hd h1, hz, MapKept.run_setObj_map _ hb, Result.andThen, goInt]
  · refine ⟨{ w with heap := w.heap.setIfInBounds b (.map (es.modify j fun e => { e with key }) clock) }, e'.val, e'.born, ?_, ⟨_, _, j, { e' with key }, e'.val, (heap_set hb).1, ?_, ?_, ?_, ?_⟩, grown_set hb, by simp⟩
    · simp [Instr.mapEntry, run_underlying ht, MapKept.run_getObj_map hb, MapKept.run_checkKey hd hk, MapKept.run_findKey hd h1, h2, h3, MapKept.run_keyThatStays hk, MapKept.run_setObj_map _ hb, Result.andThen, goInt]
    · have := E.modify h2 (fun e => { e with key }) h3.symm (fun _ => rfl)
      rw [h3] at this
      exact this
    · rw [Array.getElem?_modify, if_pos rfl, h2]; rfl
    · rfl
    · rfl

theorem born_once {es : Array MapEntry} {clock : Nat} (h : Stamped es clock) {i j : Nat} {x y : MapEntry} (hi : es[i]? = some x) (hj : es[j]? = some y) (he : x.born = y.born) : i = j := by
  have h3 := h.2.1
  have a : (es.toList.map (·.born))[i]? = some x.born := by simp [hi]
  have c : (es.toList.map (·.born))[j]? = some x.born := by simp [hj, he]
  exact (List.getElem?_inj (by have := (Array.getElem?_eq_some_iff.1 hi).1; simpa using this) h3).1 (a.trans c.symm)

theorem Pend.put {w : World} {key : Value} {stamp : Nat} (h : Pend d w b f key stamp) (t : TypeId) (val : Value) :
    ∃ w', (Instr.entryStore t (.map (some b)) (.int .i64 (stamp : Nat)) val).run P w = .ok () w' ∧ MapAt d w' b (upd f key val) ∧ w.grownBy w' (some b) ∧ w'.heap.size = w.heap.size := by
  obtain ⟨es, clock, j, e0, v0, hb, E, hj, hkey, hst⟩ := h
  have hidx : es.findIdx? (fun e => (e.born : Int) == (stamp : Int)) = some j := by
    rw [Array.findIdx?_eq_some_iff_getElem]
    have hlt := (Array.getElem?_eq_some_iff.1 hj).1
    have hej : es[j] = e0 := (Array.getElem?_eq_some_iff.1 hj).2
    refine ⟨hlt, by simp [hej, hst], fun i hi => ?_⟩
    have hlt' : i < es.size := by omega
    simp only [beq_iff_eq, Int.natCast_inj]
    intro e
    have := born_once E.st (Array.getElem?_eq_getElem hlt') hj (by rw [hst]; exact e)
    omega
  refine ⟨{ w with heap := w.heap.setIfInBounds b (.map (es.modify j fun e => { e with val }) clock) }, ?_, ⟨_, _, (heap_set hb).1, ?_⟩, grown_set hb, by simp⟩
  · simp [Instr.entryStore, MapKept.run_getObj_map hb, asInt, asIntOf, hidx, MapKept.run_setObj_map _ hb, Result.andThen]
  · have := E.modify hj (fun e => { e with val }) rfl (fun _ => rfl)
    rw [hkey] at this
    have e2 : upd (upd f key v0) key val = upd f key val := by
      funext s; unfold upd; split <;> rfl
    rw [← e2]
    exact this

theorem Pend.block {w w' : World} {key : Value} {stamp : Nat} (h : Pend d w b f key stamp) (e : w'.heap[b]? = w.heap[b]?) : Pend d w' b f key stamp := by
  obtain ⟨es, clock, j, e0, v0, hb, r⟩ := h
  exact ⟨es, clock, j, e0, v0, e.trans hb, r⟩
end
end Go.Proofs.YtomckoldfdeidaaGreatDoor

/- PLAIN WORDS: one item behind others (the program's own way: two maps and the last path). -/
namespace Go.Proofs.YtomckoldfdeidaaGreatDoor
open Go

def It.val (x : It) : Value := .agg #[.string x.path, .int .i64 x.kind, .int .i64 x.mode, .string x.data, .string x.same]
def kV (kf : ByteArray → Option Int) : Value → Option Value | .string s => (kf s).map (Value.int .i64) | _ => none
def fV (ff : ByteArray → Option It) : Value → Option Value | .string s => (ff s).map It.val | _ => none
def setB {α : Type} (f : ByteArray → Option α) (k : ByteArray) (v : α) : ByteArray → Option α := fun s => if s = k then some v else f s

theorem upd_kV (kf : ByteArray → Option Int) (p : ByteArray) (n : Int) : upd (kV kf) (.string p) (.int .i64 n) = kV (setB kf p n) := by
  funext s
  unfold upd
  split
  · rename_i h; subst h; simp [kV, setB]
  · rename_i h
    cases s <;> try rfl
    rename_i s
    have : s ≠ p := fun e => h (by rw [e])
    simp [kV, setB, this]
theorem upd_fV (ff : ByteArray → Option It) (p : ByteArray) (x : It) : upd (fV ff) (.string p) x.val = fV (setB ff p x) := by
  funext s
  unfold upd
  split
  · rename_i h; subst h; simp [fV, setB]
  · rename_i h
    cases s <;> try rfl
    rename_i s
    have : s ≠ p := fun e => h (by rw [e])
    simp [fV, setB, this]

def leB (a b : ByteArray) : Bool := Op.bytesLess a.toList b.toList || a.toList == b.toList
/-- An error of an item behind others. -/
def addE (kf : ByteArray → Option Int) (ff : ByteArray → Option It) (last : ByteArray) (x : It) : Int :=
  if aloneE x ≠ 0 then aloneE x
  else if leB x.path last then 13
  else if upL x.path.data.toList ≠ [] ∧ (kf ⟨(upL x.path.data.toList).toArray⟩).getD 0 ≠ 2 then 14
  else if x.same.toList ≠ [] then
    match ff x.same with
    | none => 22
    | some o => if o.mode ≠ x.mode ∨ x.data.toList ≠ [] then 22 else 0
  else 0
def addF (ff : ByteArray → Option It) (x : It) : ByteArray → Option It := if x.same.toList = [] ∧ x.kind = 1 then setB ff x.path x else ff

def ChkAt (T : TypeId) (w : World) (B cb kb fb : Nat) (kf : ByteArray → Option Int) (ff : ByteArray → Option It) (last : ByteArray) : Prop :=
  B ≤ cb ∧ B ≤ kb ∧ B ≤ fb ∧ kb ≠ fb ∧ w.heap[cb]? = some (.cells #[.map (some kb), .map (some fb), .string last] T (0, 0)) ∧ MapAt .string w kb (kV kf) ∧ MapAt .string w fb (fV ff)
end Go.Proofs.YtomckoldfdeidaaGreatDoor

/- package tree: (*checker).add. -/
namespace Go.Proofs.YtomckoldfdeidaaGreatDoor
open Go.RowKit

def TC : TypeId := 62

theorem cell_blk {w : World} {b : Nat} {cs : Array Value} {T : TypeId} {fr : Nat × Nat} (h : w.heap[b]? = some (.cells cs T fr)) (j : Nat) {v : Value} (hv : cs[j]? = some v) : w.cell? ⟨b, j, none⟩ = some v := by
  rw [Lib.cell_of_heap h]; exact hv
theorem belowN {B : Nat} {w w' : World} (h : Below B w w') (n : Nat) : Below B w (w'.drewN n) := ⟨h.os, h.tape, h.output, h.size, h.block⟩
theorem set_blk {w : World} {b : Nat} {cs : Array Value} {T : TypeId} {fr : Nat × Nat} (h : w.heap[b]? = some (.cells cs T fr)) (i : Nat) (v : Value) : (w.setCell ⟨b, i, none⟩ v).heap[b]? = some (.cells (cs.setIfInBounds i v) T fr) := by
  unfold World.setCell
  simp [Array.getElem?_modify, h]
theorem blk_lt {w : World} {b : Nat} {o : Obj} (h : w.heap[b]? = some o) : b < w.heap.size := (Array.getElem?_eq_some_iff.1 h).1

/-- What a call of shape leaves: the item's own box, and the checker. -/
theorem after_shape {w w1 : World} {B cb kb fb : Nat} {kf : ByteArray → Option Int} {ff : ByteArray → Option It} {last : ByteArray} (h : ChkAt TC w B cb kb fb kf ff last) (cs : Array Value) (hb : Below (w.alloc (.cells cs 42)).heap.size (w.alloc (.cells cs 42)) w1) :
    ChkAt TC w1 B cb kb fb kf ff last ∧ w1.heap[w.heap.size]? = some (.cells cs 42 (0, 0)) ∧ Below w.heap.size w w1 ∧ w.heap.size < w1.heap.size := by
  obtain ⟨h1, h2, h3, h4, h5, h6, h7⟩ := h
  have hz : (w.alloc (.cells cs 42)).heap.size = w.heap.size + 1 := by simp
  have lt5 := blk_lt h5
  refine ⟨⟨h1, h2, h3, h4, ?_, ?_, ?_⟩, ?_, ?_, ?_⟩
  · rw [hb.block _ (by omega), Below.heap_alloc _ _ _ lt5]; exact h5
  · exact (h6.alloc _).below hb (by have := h6.lt; omega)
  · exact (h7.alloc _).below hb (by have := h7.lt; omega)
  · rw [hb.block _ (by omega)]; exact (MapKept.heap_alloc w _).1
  · exact ((Below.refl _ _).alloc (Nat.le_refl _) _).trans (hb.mono (by omega))
  · have := hb.size; omega

set_option maxHeartbeats 1000000 in
set_option maxRecDepth 100000 in
theorem add_shape (x : It) (kf : ByteArray → Option Int) (ff : ByteArray → Option It) (last : ByteArray) (B cb kb fb : Nat) (w : World) (hg : Glob w) (_h : ChkAt TC w B cb kb fb kf ff last) (he : aloneE x ≠ 0) :
    Calls Tryz.prog 20 #[.pointer (some ⟨cb, 0, none⟩), .agg #[.string x.path, .int .i64 x.kind, .int .i64 x.mode, .string x.data, .string x.same]] w fun e w' => e = .returned (.int .i64 (addE kf ff last x)) ∧ Below w.heap.size w w' := by
  obtain ⟨o, ho⟩ : ∃ o, o = Obj.cells #[.string x.path, .int .i64 x.kind, .int .i64 x.mode, .string x.data, .string x.same] 42 := ⟨_, rfl⟩
  have hb0 : Below w.heap.size w (w.alloc o) := (Below.refl _ _).alloc (Nat.le_refl _) o
  have hsh := item_shape x.path x.data x.same x.kind x.mode (w.alloc o) (hg.below hb0)
  subst ho
  obtain ⟨E, hE⟩ : ∃ E, E = aloneE x := ⟨_, rfl⟩
  rw [show aloneE ⟨x.path, x.kind, x.mode, x.data, x.same⟩ = E from hE.symm] at hsh
  rw [← hE] at he
  have HB0 := Lib.hid hb0; clear hb0
  have HE := Lib.hid hE; clear hE
  go_enter Tryz.func20, Tryz.ntmps20
  go_wp2_with (go_at_call 32; refine hsh.mono ?_; rintro e w1 ⟨rfl, hb1⟩)
  go_ret
  refine ⟨ret_int ?_, HB0.out.trans (hb1.mono (by simp))⟩
  unfold addE
  rw [← HE.out, if_pos he]

set_option maxHeartbeats 1000000 in
set_option maxRecDepth 100000 in
theorem add_last (x : It) (kf : ByteArray → Option Int) (ff : ByteArray → Option It) (last : ByteArray) (B cb kb fb : Nat) (w : World) (hg : Glob w) (h : ChkAt TC w B cb kb fb kf ff last) (he : aloneE x = 0) (hl : leB x.path last = true) :
    Calls Tryz.prog 20 #[.pointer (some ⟨cb, 0, none⟩), .agg #[.string x.path, .int .i64 x.kind, .int .i64 x.mode, .string x.data, .string x.same]] w fun e w' => e = .returned (.int .i64 (addE kf ff last x)) ∧ Below w.heap.size w w' := by
  obtain ⟨o, ho⟩ : ∃ o, o = Obj.cells #[.string x.path, .int .i64 x.kind, .int .i64 x.mode, .string x.data, .string x.same] 42 := ⟨_, rfl⟩
  have hb0 : Below w.heap.size w (w.alloc o) := (Below.refl _ _).alloc (Nat.le_refl _) o
  have hsh := item_shape x.path x.data x.same x.kind x.mode (w.alloc o) (hg.below hb0)
  subst ho
  rw [show aloneE ⟨x.path, x.kind, x.mode, x.data, x.same⟩ = 0 from he] at hsh
  have HE := Lib.hid he; clear he
  have HL := Lib.hid hl
  have hl2 : (Op.bytesLess x.path.toList last.toList || x.path.toList == last.toList) = true := hl
  clear hl
  go_enter Tryz.func20, Tryz.ntmps20
  go_wp2_with (go_at_call 32; refine hsh.mono ?_)
  rintro e w1 ⟨rfl, hb1⟩
  obtain ⟨⟨h1, h2, h3, h4, h5, h6, h7⟩, hi, hbw, hz⟩ := after_shape h _ hb1
  have k2 : w1.cell? ⟨cb, 2, none⟩ = some (.string last) := cell_blk h5 2 rfl
  have c0 : w1.cell? ⟨w.heap.size, 0, none⟩ = some (.string x.path) := cell_blk hi 0 rfl
  have HBW := Lib.hid hbw
  clear hbw h1 h2 h3 h4 h5 h6 h7 hi hb1 h
  go_wp2
  go_quiet (fail)
  go_wp2
  go_ret
  refine ⟨ret_int ?_, belowN HBW.out _⟩
  unfold addE
  rw [if_neg (by rw [HE.out]; simp), if_pos HL.out]

theorem aloneE_plain {x : It} (h : aloneE x = 0) : plainL x.path.data.toList = true := by
  unfold aloneE at h
  split at h
  · simp at h
  · rename_i hp; simpa using hp

set_option maxHeartbeats 2000000 in
set_option maxRecDepth 100000 in
theorem add_up (x : It) (kf : ByteArray → Option Int) (ff : ByteArray → Option It) (last : ByteArray) (B cb kb fb : Nat) (w : World) (hg : Glob w) (h : ChkAt TC w B cb kb fb kf ff last) (he : aloneE x = 0) (hl : leB x.path last = false)
    (hu0 : upL x.path.data.toList ≠ []) (hu2 : (kf ⟨(upL x.path.data.toList).toArray⟩).getD 0 ≠ 2) :
    Calls Tryz.prog 20 #[.pointer (some ⟨cb, 0, none⟩), .agg #[.string x.path, .int .i64 x.kind, .int .i64 x.mode, .string x.data, .string x.same]] w fun e w' => e = .returned (.int .i64 (addE kf ff last x)) ∧ Below w.heap.size w w' := by
  obtain ⟨o, ho⟩ : ∃ o, o = Obj.cells #[.string x.path, .int .i64 x.kind, .int .i64 x.mode, .string x.data, .string x.same] 42 := ⟨_, rfl⟩
  have hb0 : Below w.heap.size w (w.alloc o) := (Below.refl _ _).alloc (Nat.le_refl _) o
  have hsh := item_shape x.path x.data x.same x.kind x.mode (w.alloc o) (hg.below hb0)
  subst ho
  have hdir := fun w => path_Dir x.path w (aloneE_plain he)
  obtain ⟨u, hu⟩ : ∃ u : ByteArray, u = ⟨(upL x.path.data.toList).toArray⟩ := ⟨_, rfl⟩
  have edir : (⟨(dirL x.path.data.toList).toArray⟩ : ByteArray) = u := by unfold dirL; rw [if_neg hu0, hu]
  rw [edir] at hdir
  have hu46 : (u.toList == [46]) = false := by
    rw [hu, toList_mk, beq_eq_false_iff_ne]; exact plain_up_ne (aloneE_plain he)
  rw [show aloneE ⟨x.path, x.kind, x.mode, x.data, x.same⟩ = 0 from he] at hsh
  have HU0 := Lib.hid hu0; have HU2 := Lib.hid hu2
  rw [← hu] at hu2
  obtain ⟨n, hn⟩ : ∃ n, n = (kf u).getD 0 := ⟨_, rfl⟩
  rw [← hn] at hu2
  have hn2 : (n == 2) = false := by simpa using hu2
  have HN := Lib.hid hn; clear hn
  have HE := Lib.hid he; clear he
  have HL := Lib.hid hl
  have hl2 : (Op.bytesLess x.path.toList last.toList || x.path.toList == last.toList) = false := hl
  clear hl hu0 hu2 hu edir
  go_enter Tryz.func20, Tryz.ntmps20
  go_wp2_with (go_at_call 32; refine hsh.mono ?_)
  rintro e w1 ⟨rfl, hb1⟩
  obtain ⟨⟨h1, h2, h3, h4, h5, h6, h7⟩, hi, hbw, hz⟩ := after_shape h _ hb1
  have k0 : w1.cell? ⟨cb, 0, none⟩ = some (.map (some kb)) := cell_blk h5 0 rfl
  have k2 : w1.cell? ⟨cb, 2, none⟩ = some (.string last) := cell_blk h5 2 rfl
  have c0 : w1.cell? ⟨w.heap.size, 0, none⟩ = some (.string x.path) := cell_blk hi 0 rfl
  have hlk : ∀ q, (Instr.lookup 59 (.map (some kb)) (.string u) false).run Tryz.prog (w1.drewN q) = .ok (.int .i64 n) (w1.drewN q) := by
    intro q
    rw [(h6.drewN q).look Tryz.underlying59 Tryz.underlying9 (by trivial) (z := .int .i64 0) (by kernel_rfl) false, HN.out]
    cases hk : kf u <;> simp [kV, hk]
  have HBW := Lib.hid hbw
  clear hbw h1 h2 h3 h4 h5 h6 h7 hi hb1 h
  go_wp2
  go_quiet (fail)
  go_wp2_with (go_at_call 33; (with_reducible refine (hdir _).mono ?_); rintro e w' ⟨rfl, rfl⟩)
  go_ret
  refine ⟨ret_int ?_, belowN HBW.out _⟩
  unfold addE
  rw [if_neg (by rw [HE.out]; simp), if_neg (by rw [HL.out]; simp), if_pos ⟨HU0.out, HU2.out⟩]

end Go.Proofs.YtomckoldfdeidaaGreatDoor

/- package tree: (*checker).add, where it goes on behind the directory's look. -/
namespace Go.Proofs.YtomckoldfdeidaaGreatDoor
open Go.RowKit

/-- The directory above is there, or there is none. -/
def UpOk (kf : ByteArray → Option Int) (x : It) : Prop := upL x.path.data.toList = [] ∨ (kf ⟨(upL x.path.data.toList).toArray⟩).getD 0 = 2

theorem addE_next {x : It} {kf : ByteArray → Option Int} {ff : ByteArray → Option It} {last : ByteArray} (he : aloneE x = 0) (hl : leB x.path last = false) (hu : UpOk kf x) :
    addE kf ff last x = if x.same.toList ≠ [] then (match ff x.same with | none => 22 | some o => if o.mode ≠ x.mode ∨ x.data.toList ≠ [] then 22 else 0) else 0 := by
  unfold addE
  rw [if_neg (by rw [he]; simp), if_neg (by rw [hl]; simp), if_neg (by rintro ⟨a, b⟩; rcases hu with h | h; exact a h; exact b h)]
  try rfl

set_option maxHeartbeats 2000000 in
set_option maxRecDepth 100000 in
theorem add_plain (x : It) (kf : ByteArray → Option Int) (ff : ByteArray → Option It) (last : ByteArray) (B cb kb fb : Nat) (w : World) (hB : B ≤ w.heap.size) (hg : Glob w) (h : ChkAt TC w B cb kb fb kf ff last) (he : aloneE x = 0) (hl : leB x.path last = false)
    (hup : UpOk kf x) (hs : x.same.toList = []) (hk1 : x.kind ≠ 1) :
    Calls Tryz.prog 20 #[.pointer (some ⟨cb, 0, none⟩), .agg #[.string x.path, .int .i64 x.kind, .int .i64 x.mode, .string x.data, .string x.same]] w fun e w' => e = .returned (.int .i64 0) ∧ ChkAt TC w' B cb kb fb (setB kf x.path x.kind) ff x.path ∧ Below B w w' := by
  obtain ⟨o, ho⟩ : ∃ o, o = Obj.cells #[.string x.path, .int .i64 x.kind, .int .i64 x.mode, .string x.data, .string x.same] 42 := ⟨_, rfl⟩
  have hb0 : Below w.heap.size w (w.alloc o) := (Below.refl _ _).alloc (Nat.le_refl _) o
  have hsh := item_shape x.path x.data x.same x.kind x.mode (w.alloc o) (hg.below hb0)
  subst ho
  have hdir := fun w => path_Dir x.path w (aloneE_plain he)
  obtain ⟨u, hu⟩ : ∃ u : ByteArray, u = ⟨(dirL x.path.data.toList).toArray⟩ := ⟨_, rfl⟩
  rw [← hu] at hdir
  obtain ⟨n, hn⟩ : ∃ n, n = (kf u).getD 0 := ⟨_, rfl⟩
  have hgo : (u.toList == [46]) = true ∨ ((u.toList == [46]) = false ∧ (n != 2) = false) := by
    unfold dirL at hu
    by_cases h0 : upL x.path.data.toList = []
    · left; rw [hu, if_pos h0, toList_mk]; rfl
    · right
      rw [if_neg h0] at hu
      refine ⟨by rw [hu, toList_mk, beq_eq_false_iff_ne]; exact plain_up_ne (aloneE_plain he), ?_⟩
      rcases hup with h1 | h1
      · exact absurd h1 h0
      · rw [← hu, ← hn] at h1; simp [h1]
  rw [show aloneE ⟨x.path, x.kind, x.mode, x.data, x.same⟩ = 0 from he] at hsh
  have HN := Lib.hid hn; clear hn
  have HU := Lib.hid hu; clear hu
  have hl2 : (Op.bytesLess x.path.toList last.toList || x.path.toList == last.toList) = false := hl
  have hs2 : (x.same.toList.isEmpty) = true := by rw [hs]; rfl
  have hk2 : (x.kind == 1) = false := by simpa using hk1
  clear hl he hup hs hk1
  rcases hgo with hgo | ⟨hgo1, hgo2⟩
  all_goals
    go_enter Tryz.func20, Tryz.ntmps20
    go_wp2_with (go_at_call 32; refine hsh.mono ?_)
    rintro e w1 ⟨rfl, hb1⟩
    obtain ⟨hc, hi, hbw, hz⟩ := after_shape h _ hb1
    obtain ⟨h1, h2, h3, h4, h5, h6, h7⟩ := id hc
    have k0 : w1.cell? ⟨cb, 0, none⟩ = some (.map (some kb)) := cell_blk h5 0 rfl
    have k2 : w1.cell? ⟨cb, 2, none⟩ = some (.string last) := cell_blk h5 2 rfl
    have c0 : w1.cell? ⟨w.heap.size, 0, none⟩ = some (.string x.path) := cell_blk hi 0 rfl
    have c1 : w1.cell? ⟨w.heap.size, 1, none⟩ = some (.int .i64 x.kind) := cell_blk hi 1 rfl
    have c4 : w1.cell? ⟨w.heap.size, 4, none⟩ = some (.string x.same) := cell_blk hi 4 rfl
    have hlk : ∀ q, (Instr.lookup 59 (.map (some kb)) (.string u) false).run Tryz.prog (w1.drewN q) = .ok (.int .i64 n) (w1.drewN q) := by
      intro q
      rw [(h6.drewN q).look Tryz.underlying59 Tryz.underlying9 (by trivial) (z := .int .i64 0) (by kernel_rfl) false, HN.out]
      cases hk : kf u <;> simp [kV, hk]
    have HBW := Lib.hid hbw
    have HC := Lib.hid hc
    have HI := Lib.hid hi
    clear hbw h1 h2 h3 h4 h5 h6 h7 hi hb1 hc
    go_wp2
    go_quiet (fail)
    go_wp2_with (go_at_call 33; (with_reducible refine (hdir _).mono ?_); rintro e w' ⟨rfl, rfl⟩)
    obtain ⟨h1, h2, h3, h4, h5, h6, h7⟩ := id HC.out
    have hi := HI.out
    obtain ⟨w2, v2, stamp, hent, hpend, hg2, hz2⟩ := (h6.drewN (nq + 1)).entry (P := Tryz.prog) (t := 59) Tryz.underlying59 Tryz.underlying9 (key := .string x.path) (by trivial) (z := .int .i64 0) (by kernel_rfl)
    obtain ⟨w3, hput, hm3, hg3, hz3⟩ := hpend.put (P := Tryz.prog) 59 (.int .i64 x.kind)
    have ne1 : cb ≠ kb := by
      intro e; subst e; obtain ⟨es, cl, hb, _⟩ := h6; rw [h5] at hb; cases hb
    have ne2 : w.heap.size ≠ kb := by
      intro e; rw [← e] at h6; obtain ⟨es, cl, hb, _⟩ := h6; rw [hi] at hb; cases hb
    have b5 : w2.heap[cb]? = some (.cells #[.map (some kb), .map (some fb), .string last] TC (0, 0)) := (hg2.block cb (blk_lt h5) (by simpa using ne1)).trans h5
    have bi : w2.heap[w.heap.size]? = _ := (hg2.block w.heap.size (blk_lt hi) (by simpa using ne2)).trans hi
    have d5 : w3.heap[cb]? = some (.cells #[.map (some kb), .map (some fb), .string last] TC (0, 0)) := (hg3.block cb (blk_lt b5) (by simpa using ne1)).trans b5
    have di : w3.heap[w.heap.size]? = _ := (hg3.block w.heap.size (blk_lt bi) (by simpa using ne2)).trans bi
    have q0 : w2.cell? ⟨cb, 0, none⟩ = some (.map (some kb)) := cell_blk b5 0 rfl
    have q1 : w2.cell? ⟨w.heap.size, 0, none⟩ = some (.string x.path) := cell_blk bi 0 rfl
    have q2 : w2.cell? ⟨w.heap.size, 1, none⟩ = some (.int .i64 x.kind) := cell_blk bi 1 rfl
    have r0 : w3.cell? ⟨cb, 0, none⟩ = some (.map (some kb)) := cell_blk d5 0 rfl
    have r1 : w3.cell? ⟨w.heap.size, 0, none⟩ = some (.string x.path) := cell_blk di 0 rfl
    have r2 : w3.cell? ⟨w.heap.size, 1, none⟩ = some (.int .i64 x.kind) := cell_blk di 1 rfl
    have r3 : w3.cell? ⟨cb, 2, none⟩ = some (.string last) := cell_blk d5 2 rfl
    have r4 : w3.frozen? ⟨cb, 2, none⟩ = false := Lib.frozen_of_heap d5 2
    have e5 := set_blk d5 2 (.string x.path)
    have ne3 : w.heap.size ≠ cb := by have := blk_lt HI.out; intro e; have := h.2.2.2.2.1; rw [← e] at this; have := blk_lt this; omega
    have ei : (w3.setCell ⟨cb, 2, none⟩ (.string x.path)).heap[w.heap.size]? = _ := (Below.heap_setCell w3 ⟨cb, 2, none⟩ (.string x.path) w.heap.size ne3).trans di
    have s0 : (w3.setCell ⟨cb, 2, none⟩ (.string x.path)).cell? ⟨cb, 0, none⟩ = some (.map (some kb)) := cell_blk e5 0 rfl
    have s1 : (w3.setCell ⟨cb, 2, none⟩ (.string x.path)).cell? ⟨w.heap.size, 0, none⟩ = some (.string x.path) := cell_blk ei 0 rfl
    have s2 : (w3.setCell ⟨cb, 2, none⟩ (.string x.path)).cell? ⟨w.heap.size, 1, none⟩ = some (.int .i64 x.kind) := cell_blk ei 1 rfl
    have HE5 := Lib.hid e5
    have HM3 := Lib.hid hm3; have HD5 := Lib.hid d5; have H7 := Lib.hid h7; have HG2 := Lib.hid hg2; have HG3 := Lib.hid hg3; have HZ2 := Lib.hid hz2; have HZ3 := Lib.hid hz3
    clear e5 ei hm3 d5 di bi b5 h7 h6 h5 hi hg2 hg3 hz2 hz3 hpend
    go_region_held3 (fun w' => w'.cell? ⟨cb, 0, none⟩ = some (.map (some kb)) ∧ w'.cell? ⟨w.heap.size, 0, none⟩ = some (.string x.path) ∧ w'.cell? ⟨w.heap.size, 1, none⟩ = some (.int .i64 x.kind)) (first | go_keep | exact ⟨q0, q1, q2⟩ | exact ⟨r0, r1, r2⟩ | exact ⟨s0, s1, s2⟩) ((fail))
    go_wp2
    go_ret
    have hb4 : Below B w w3 := ((belowN (HBW.out.mono hB) _).grown HG2.out (by have := HBW.out.size; show B ≤ w1.heap.size; omega) (fun k hk => by cases hk; exact h2)).grown HG3.out (by have := HBW.out.size; have := HZ2.out; show B ≤ w2.heap.size; simp [World.drewN] at this; omega) (fun k hk => by cases hk; exact h2)
    refine ⟨rfl, ⟨h1, h2, h3, h4, HE5.out, ?_, ?_⟩, hb4.setCell h1 _⟩
    · have := (HM3.out.setCell ⟨cb, 2, none⟩ ne1 (.string x.path))
      rw [upd_kV] at this
      exact this
    · exact (((H7.out.drewN (nq + 1)).grown HG2.out (by simpa using h4.symm)).grown HG3.out (by simpa using h4.symm)).setCell ⟨cb, 2, none⟩ (by intro e; have : cb = fb := e; obtain ⟨es, cl, hb, _⟩ := H7.out; have h5 := HC.out.2.2.2.2.1; rw [this, hb] at h5; cases h5) _
end Go.Proofs.YtomckoldfdeidaaGreatDoor

/- package tree: (*checker).add of a file with bytes of its own. -/
namespace Go.Proofs.YtomckoldfdeidaaGreatDoor
open Go.RowKit

set_option maxHeartbeats 2000000 in
set_option maxRecDepth 100000 in
theorem add_file (x : It) (kf : ByteArray → Option Int) (ff : ByteArray → Option It) (last : ByteArray) (B cb kb fb : Nat) (w : World) (hB : B ≤ w.heap.size) (hg : Glob w) (h : ChkAt TC w B cb kb fb kf ff last) (he : aloneE x = 0) (hl : leB x.path last = false)
    (hup : UpOk kf x) (hs : x.same.toList = []) (hk1 : x.kind = 1) :
    Calls Tryz.prog 20 #[.pointer (some ⟨cb, 0, none⟩), .agg #[.string x.path, .int .i64 x.kind, .int .i64 x.mode, .string x.data, .string x.same]] w fun e w' => e = .returned (.int .i64 0) ∧ ChkAt TC w' B cb kb fb (setB kf x.path x.kind) (setB ff x.path x) x.path ∧ Below B w w' := by
  obtain ⟨o, ho⟩ : ∃ o, o = Obj.cells #[.string x.path, .int .i64 x.kind, .int .i64 x.mode, .string x.data, .string x.same] 42 := ⟨_, rfl⟩
  have hb0 : Below w.heap.size w (w.alloc o) := (Below.refl _ _).alloc (Nat.le_refl _) o
  have hsh := item_shape x.path x.data x.same x.kind x.mode (w.alloc o) (hg.below hb0)
  subst ho
  have hdir := fun w => path_Dir x.path w (aloneE_plain he)
  obtain ⟨u, hu⟩ : ∃ u : ByteArray, u = ⟨(dirL x.path.data.toList).toArray⟩ := ⟨_, rfl⟩
  rw [← hu] at hdir
  obtain ⟨n, hn⟩ : ∃ n, n = (kf u).getD 0 := ⟨_, rfl⟩
  have hgo : (u.toList == [46]) = true ∨ ((u.toList == [46]) = false ∧ (n != 2) = false) := by
    unfold dirL at hu
    by_cases h0 : upL x.path.data.toList = []
    · left; rw [hu, if_pos h0, toList_mk]; rfl
    · right
      rw [if_neg h0] at hu
      refine ⟨by rw [hu, toList_mk, beq_eq_false_iff_ne]; exact plain_up_ne (aloneE_plain he), ?_⟩
      rcases hup with h1 | h1
      · exact absurd h1 h0
      · rw [← hu, ← hn] at h1; simp [h1]
  rw [show aloneE ⟨x.path, x.kind, x.mode, x.data, x.same⟩ = 0 from he] at hsh
  have HN := Lib.hid hn; clear hn
  have HU := Lib.hid hu; clear hu
  have hl2 : (Op.bytesLess x.path.toList last.toList || x.path.toList == last.toList) = false := hl
  have hs2 : (x.same.toList.isEmpty) = true := by rw [hs]; rfl
  have hk2 : (x.kind == 1) = true := by simpa using hk1
  clear hl he hup hs hk1
  rcases hgo with hgo | ⟨hgo1, hgo2⟩
  all_goals
    go_enter Tryz.func20, Tryz.ntmps20
    go_wp2_with (go_at_call 32; refine hsh.mono ?_)
    rintro e w1 ⟨rfl, hb1⟩
    obtain ⟨hc, hi, hbw, hz⟩ := after_shape h _ hb1
    obtain ⟨h1, h2, h3, h4, h5, h6, h7⟩ := id hc
    have k0 : w1.cell? ⟨cb, 0, none⟩ = some (.map (some kb)) := cell_blk h5 0 rfl
    have k2 : w1.cell? ⟨cb, 2, none⟩ = some (.string last) := cell_blk h5 2 rfl
    have c0 : w1.cell? ⟨w.heap.size, 0, none⟩ = some (.string x.path) := cell_blk hi 0 rfl
    have c1 : w1.cell? ⟨w.heap.size, 1, none⟩ = some (.int .i64 x.kind) := cell_blk hi 1 rfl
    have c2 : w1.cell? ⟨w.heap.size, 2, none⟩ = some (.int .i64 x.mode) := cell_blk hi 2 rfl
    have c3 : w1.cell? ⟨w.heap.size, 3, none⟩ = some (.string x.data) := cell_blk hi 3 rfl
    have k1 : w1.cell? ⟨cb, 1, none⟩ = some (.map (some fb)) := cell_blk h5 1 rfl
    have c4 : w1.cell? ⟨w.heap.size, 4, none⟩ = some (.string x.same) := cell_blk hi 4 rfl
    have hlk : ∀ q, (Instr.lookup 59 (.map (some kb)) (.string u) false).run Tryz.prog (w1.drewN q) = .ok (.int .i64 n) (w1.drewN q) := by
      intro q
      rw [(h6.drewN q).look Tryz.underlying59 Tryz.underlying9 (by trivial) (z := .int .i64 0) (by kernel_rfl) false, HN.out]
      cases hk : kf u <;> simp [kV, hk]
    have HBW := Lib.hid hbw
    have HC := Lib.hid hc
    have HI := Lib.hid hi
    clear hbw h1 h2 h3 h4 h5 h6 h7 hi hb1 hc
    go_wp2
    go_quiet (fail)
    obtain ⟨h1, h2, h3, h4, h5, h6, h7⟩ := id HC.out
    have hi := HI.out
    obtain ⟨wf, hst, hmf, hgf, hzf⟩ := (h7.drewN (nq + 1)).store (P := Tryz.prog) (t := 60) Tryz.underlying60 Tryz.underlying9 (key := .string x.path) (by trivial) (.agg #[.string x.path, .int .i64 x.kind, .int .i64 x.mode, .string x.data, .string x.same])
    have nf1 : cb ≠ fb := by
      intro e; subst e; obtain ⟨es, cl, hb, _⟩ := h7; rw [h5] at hb; cases hb
    have nf2 : w.heap.size ≠ fb := by
      intro e; rw [← e] at h7; obtain ⟨es, cl, hb, _⟩ := h7; rw [hi] at hb; cases hb
    have f5 : wf.heap[cb]? = some (.cells #[.map (some kb), .map (some fb), .string last] TC (0, 0)) := (hgf.block cb (blk_lt h5) (by simpa using nf1)).trans h5
    have fi : wf.heap[w.heap.size]? = _ := (hgf.block w.heap.size (blk_lt hi) (by simpa using nf2)).trans hi
    have m6 : MapAt .string wf kb (kV kf) := (h6.drewN (nq + 1)).grown hgf (by simpa using h4)
    have p0 : wf.cell? ⟨cb, 0, none⟩ = some (.map (some kb)) := cell_blk f5 0 rfl
    have p1 : wf.cell? ⟨w.heap.size, 0, none⟩ = some (.string x.path) := cell_blk fi 0 rfl
    have p2 : wf.cell? ⟨w.heap.size, 1, none⟩ = some (.int .i64 x.kind) := cell_blk fi 1 rfl
    have hbf : Below B w wf := (belowN (HBW.out.mono hB) _).grown hgf (by have := HBW.out.size; show B ≤ w1.heap.size; omega) (fun k hk => by cases hk; exact h3)
    have HMF := Lib.hid hmf; have HF5 := Lib.hid f5; have HFI := Lib.hid fi; have HM6 := Lib.hid m6; have HBF := Lib.hid hbf; have HZF := Lib.hid hzf
    have p3 : wf.cell? ⟨w.heap.size, 2, none⟩ = some (.int .i64 x.mode) := cell_blk fi 2 rfl
    have p4 : wf.cell? ⟨w.heap.size, 3, none⟩ = some (.string x.data) := cell_blk fi 3 rfl
    have p5 : wf.cell? ⟨w.heap.size, 4, none⟩ = some (.string x.same) := cell_blk fi 4 rfl
    have p6 : wf.cell? ⟨cb, 1, none⟩ = some (.map (some fb)) := cell_blk f5 1 rfl
    clear hmf hgf hzf f5 fi m6 h1 h2 h3 h4 h5 h6 h7 hi hbf
    go_wp2_with (go_at_call 33; (with_reducible refine (hdir _).mono ?_); rintro e w' ⟨rfl, rfl⟩)
    go_region_held3 (fun w' => w'.cell? ⟨cb, 1, none⟩ = some (.map (some fb)) ∧ w'.cell? ⟨w.heap.size, 0, none⟩ = some (.string x.path) ∧ w'.cell? ⟨w.heap.size, 1, none⟩ = some (.int .i64 x.kind) ∧ w'.cell? ⟨w.heap.size, 2, none⟩ = some (.int .i64 x.mode) ∧ w'.cell? ⟨w.heap.size, 3, none⟩ = some (.string x.data) ∧ w'.cell? ⟨w.heap.size, 4, none⟩ = some (.string x.same)) (first | go_keep | exact ⟨p6, p1, p2, p3, p4, p5⟩) ((fail))
    clear p3 p4 p5 p6 hst
    go_wp2
    obtain ⟨h1, h2, h3, h4, _, _, _⟩ := id HC.out
    have h5 := HF5.out
    have hi := HFI.out
    have h6 := HM6.out
    have h7 := HMF.out
    obtain ⟨w2, v2, stamp, hent, hpend, hg2, hz2⟩ := (h6.drew).entry (P := Tryz.prog) (t := 59) Tryz.underlying59 Tryz.underlying9 (key := .string x.path) (by trivial) (z := .int .i64 0) (by kernel_rfl)
    obtain ⟨w3, hput, hm3, hg3, hz3⟩ := hpend.put (P := Tryz.prog) 59 (.int .i64 x.kind)
    have ne1 : cb ≠ kb := by
      intro e; subst e; obtain ⟨es, cl, hb, _⟩ := h6; rw [h5] at hb; cases hb
    have ne2 : w.heap.size ≠ kb := by
      intro e; rw [← e] at h6; obtain ⟨es, cl, hb, _⟩ := h6; rw [hi] at hb; cases hb
    have b5 : w2.heap[cb]? = some (.cells #[.map (some kb), .map (some fb), .string last] TC (0, 0)) := (hg2.block cb (blk_lt h5) (by simpa using ne1)).trans h5
    have bi : w2.heap[w.heap.size]? = _ := (hg2.block w.heap.size (blk_lt hi) (by simpa using ne2)).trans hi
    have d5 : w3.heap[cb]? = some (.cells #[.map (some kb), .map (some fb), .string last] TC (0, 0)) := (hg3.block cb (blk_lt b5) (by simpa using ne1)).trans b5
    have di : w3.heap[w.heap.size]? = _ := (hg3.block w.heap.size (blk_lt bi) (by simpa using ne2)).trans bi
    have q0 : w2.cell? ⟨cb, 0, none⟩ = some (.map (some kb)) := cell_blk b5 0 rfl
    have q1 : w2.cell? ⟨w.heap.size, 0, none⟩ = some (.string x.path) := cell_blk bi 0 rfl
    have q2 : w2.cell? ⟨w.heap.size, 1, none⟩ = some (.int .i64 x.kind) := cell_blk bi 1 rfl
    have r0 : w3.cell? ⟨cb, 0, none⟩ = some (.map (some kb)) := cell_blk d5 0 rfl
    have r1 : w3.cell? ⟨w.heap.size, 0, none⟩ = some (.string x.path) := cell_blk di 0 rfl
    have r2 : w3.cell? ⟨w.heap.size, 1, none⟩ = some (.int .i64 x.kind) := cell_blk di 1 rfl
    have r3 : w3.cell? ⟨cb, 2, none⟩ = some (.string last) := cell_blk d5 2 rfl
    have r4 : w3.frozen? ⟨cb, 2, none⟩ = false := Lib.frozen_of_heap d5 2
    have e5 := set_blk d5 2 (.string x.path)
    have ne3 : w.heap.size ≠ cb := by intro e; have := h.2.2.2.2.1; rw [← e] at this; have := blk_lt this; omega
    have ei : (w3.setCell ⟨cb, 2, none⟩ (.string x.path)).heap[w.heap.size]? = _ := (Below.heap_setCell w3 ⟨cb, 2, none⟩ (.string x.path) w.heap.size ne3).trans di
    have s0 : (w3.setCell ⟨cb, 2, none⟩ (.string x.path)).cell? ⟨cb, 0, none⟩ = some (.map (some kb)) := cell_blk e5 0 rfl
    have s1 : (w3.setCell ⟨cb, 2, none⟩ (.string x.path)).cell? ⟨w.heap.size, 0, none⟩ = some (.string x.path) := cell_blk ei 0 rfl
    have s2 : (w3.setCell ⟨cb, 2, none⟩ (.string x.path)).cell? ⟨w.heap.size, 1, none⟩ = some (.int .i64 x.kind) := cell_blk ei 1 rfl
    have HE5 := Lib.hid e5
    have HM3 := Lib.hid hm3; have HD5 := Lib.hid d5; have H7 := Lib.hid h7; have HG2 := Lib.hid hg2; have HG3 := Lib.hid hg3; have HZ2 := Lib.hid hz2; have HZ3 := Lib.hid hz3
    clear e5 ei hm3 d5 di bi b5 h7 h6 h5 hi hg2 hg3 hz2 hz3 hpend
    go_region_held3 (fun w' => w'.cell? ⟨cb, 0, none⟩ = some (.map (some kb)) ∧ w'.cell? ⟨w.heap.size, 0, none⟩ = some (.string x.path) ∧ w'.cell? ⟨w.heap.size, 1, none⟩ = some (.int .i64 x.kind)) (first | go_keep | exact ⟨q0, q1, q2⟩ | exact ⟨r0, r1, r2⟩ | exact ⟨s0, s1, s2⟩) ((fail))
    go_wp2
    go_ret
    have hwf : w.heap.size < wf.heap.size := blk_lt HFI.out
    have hB2 : B ≤ w2.heap.size := by
      have e1 := HZ2.out
      have e2 : wf.drew.heap.size = wf.heap.size := rfl
      omega
    have hb4 : Below B w w3 := ((HBF.out.drew).grown HG2.out (by show B ≤ wf.heap.size; omega) (fun k hk => by cases hk; exact h2)).grown HG3.out hB2 (fun k hk => by cases hk; exact h2)
    refine ⟨rfl, ⟨h1, h2, h3, h4, HE5.out, ?_, ?_⟩, hb4.setCell h1 _⟩
    · have := (HM3.out.setCell ⟨cb, 2, none⟩ ne1 (.string x.path))
      rw [upd_kV] at this
      exact this
    · have := (((H7.out.drew).grown HG2.out (by simpa using h4.symm)).grown HG3.out (by simpa using h4.symm)).setCell ⟨cb, 2, none⟩ nf1 (.string x.path)
      have e := upd_fV ff x.path x
      unfold It.val at e
      rw [e] at this
      exact this

end Go.Proofs.YtomckoldfdeidaaGreatDoor
