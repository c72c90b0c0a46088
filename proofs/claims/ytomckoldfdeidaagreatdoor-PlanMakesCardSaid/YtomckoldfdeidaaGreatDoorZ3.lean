/- Part 4 of 5 of a proof that the statement holds: own lemmas and walks. No further conditions. -/
import Derived.Test.YtomckoldfdeidaaGreatDoorZ2
import Derived.Deep.QuietTactic
import Derived.BigQuiet
import Derived.IntWalk
import Derived.Test.YtomckoldfdeidaaGreatDoorZ1

/- the document's words on paths: Plain. -/
namespace Go.Proofs.YtomckoldfdeidaaGreatDoor
open Go.RowKit

theorem pieces_size {l p : List UInt8} (h : p ∈ pieces l) : p.length ≤ l.length := by
  induction l generalizing p with
  | nil => simp [pieces] at h; simp [h]
  | cons c r ih =>
    unfold pieces at h
    split at h
    · simp at h
      rcases h with h | h
      · subst h; simp
      · have := ih h; simp; omega
    · split at h
      · rename_i q qs hq
        simp at h
        rcases h with h | h
        · subst h; have := ih (p := q) (by rw [hq]; simp); simp; omega
        · have := ih (p := p) (by rw [hq]; simp [h]); simp; omega
      · simp at h; subst h; simp

set_option maxRecDepth 100000 in
set_option maxHeartbeats 1600000 in
theorem ref_Plain (s : ByteArray) (hs : s.size ≤ 1000000000) (w : World) :
    Calls Tryz.prog 24 #[.string s] w fun e w' => e = .returned (.bool (plainL s.data.toList)) ∧ Below w.heap.size w w' := by
  have hpc := ref_Pieces s hs w
  have hls : s.size = s.data.toList.length := Lib.size_eq s
  obtain ⟨l, hl⟩ : ∃ l, l = s.data.toList := ⟨_, rfl⟩
  have hrt := fun w => ref_Right s hs w
  rw [← hl] at hpc hls hrt ⊢
  have HL := Lib.hid hl; have HLS := Lib.hid hls
  clear hl hls
  go_enter Tryz.func24, Tryz.ntmps24
  go_wp2_with (go_at_call 42; with_reducible refine hpc.mono ?_)
  rintro e w1 ⟨v, rfl, hown, hb1⟩
  have hpl : 0 < (pieces l).length := List.length_pos_iff.2 (pieces_ne l)
  obtain ⟨g, cap, cur, rfl, _⟩ := hown.2.resolve_left (by rintro ⟨_, b⟩; omega)
  have hcell : ∀ j p, (pieces l)[j]? = some p → w1.cell? ⟨g, j, none⟩ = some (strV p) := by
    intro j p hp
    have := own_cells hown (j := j) (u := strV p) (by unfold strVs; rw [List.getElem?_map, hp]; rfl)
    simpa using this
  have hpn : (pieces l).length ≤ l.length + 1 := by
    have : ∀ l : List UInt8, (pieces l).length ≤ l.length + 1 := by
      intro l
      induction l with
      | nil => simp [pieces]
      | cons c r ih =>
        unfold pieces
        split
        · simp; omega
        · split
          · rename_i q qs hq; rw [hq] at ih; simp at ih ⊢; omega
          · simp
    exact this l
  have hpz : (pieces l).length ≤ 1000000001 := by rw [← HLS.out] at hpn; omega
  have HCELL := Lib.hid hcell
  clear hcell hown hpn hpc
  obtain ⟨n, hn⟩ : ∃ n, n = (pieces l).length := ⟨_, rfl⟩
  rw [← hn] at hpl hpz ⊢
  have HNN := Lib.hid hn
  clear hn
  go_wp2
  go_loop [4] (fun i => ∃ k : Nat, k ≤ n ∧ i = .int .i64 k ∧ ((pieces l).take k).all nameL = true) (fun i => n - (intOf i).toNat)
  case atStart => exact ⟨0, Nat.zero_le _, rfl, rfl⟩
  case round =>
    obtain ⟨k, hk, rfl, hall⟩ := hrel
    have HALL := Lib.hid hall
    clear hall
    by_cases hlt : k < n
    · obtain ⟨p, hp⟩ : ∃ p, (pieces l)[k]? = some p := ⟨_, List.getElem?_eq_getElem (by rw [← HNN.out]; exact hlt)⟩
      have hc := HCELL.out k p hp
      unfold strV at hc
      have hps := pieces_size (List.mem_of_getElem? hp)
      have hnm := ref_Name ⟨p.toArray⟩ (by rw [Lib.size_eq]; simp; rw [← HLS.out] at hps; omega) w1
      rw [show (⟨p.toArray⟩ : ByteArray).data.toList = p by simp] at hnm
      have hsn : ((pieces l).take (k + 1)).all nameL = (((pieces l).take k).all nameL && nameL p) := by
        rw [List.take_add_one, hp]; simp
      have HSN := Lib.hid hsn; have HP := Lib.hid hp
      clear hsn hp hps
      cases hq : nameL p
      · rw [hq] at hnm
        have HQ := Lib.hid hq
        clear hq
        go_wp2_with (go_at_call 43; with_reducible refine hnm.mono ?_; rintro e w' ⟨rfl, rfl⟩)
        go_ret
        refine ⟨ret_bool ?_, hb1⟩
        have : (pieces l).all nameL = false := by
          rw [Bool.eq_false_iff]
          intro q
          have := List.all_eq_true.1 q p (List.mem_of_getElem? HP.out)
          rw [HQ.out] at this; cases this
        unfold plainL; rw [this]; simp
      · rw [hq] at hnm
        have HQ := Lib.hid hq
        clear hq
        go_wp2_with (go_at_call 43; with_reducible refine hnm.mono ?_; rintro e w' ⟨rfl, rfl⟩)
        go_round
        case rel => exact ⟨k + 1, by omega, by go_num, by rw [HSN.out, HALL.out, HQ.out]; rfl⟩
        case measure => simp [intOf]; omega
    · have hkn : k = n := by omega
      subst hkn
      go_wp2_with (go_at_call 25; with_reducible refine (hrt _).mono ?_; rintro e w' ⟨rfl, rfl⟩)
      go_ret
      refine ⟨ret_bool ?_, hb1⟩
      have := HALL.out
      rw [HNN.out, List.take_length] at this
      unfold plainL; rw [this]; simp
end Go.Proofs.YtomckoldfdeidaaGreatDoor

/- the document's words on trees: up, Find. -/
namespace Go.Proofs.YtomckoldfdeidaaGreatDoor
open Go.RowKit

set_option maxRecDepth 100000 in
set_option maxHeartbeats 1600000 in
/-- Either no slash, or what stands ahead of the last one. -/
theorem ref_up (s : ByteArray) (hs : s.size ≤ 1000000000) (w : World) :
    Calls Tryz.prog 15 #[.string s] w fun e w' => e = .returned (strV (upL s.data.toList)) ∧ w = w' := by
  go_enter Tryz.func15, Tryz.ntmps15
  go_wp2
  go_loop [3] (fun i => ∃ k : Nat, k ≤ s.size ∧ i = .int .i64 ((k : Int) - 1) ∧ 47 ∉ s.data.toList.drop k) (fun i => (intOf i + 1).toNat)
  case atStart => exact ⟨s.size, Nat.le_refl _, rfl, by rw [List.drop_of_length_le (by rw [← Lib.size_eq]; omega)]; simp⟩
  case round =>
    obtain ⟨k, hk, rfl, hno⟩ := hrel
    have HN := Lib.hid hno
    clear hno
    cases k with
    | zero =>
      have hz : ((0 : Nat) : Int) - 1 = -1 := rfl
      rw [hz]
      go_wp2
      go_ret
      refine ⟨?_, rfl⟩
      have hn := HN.out
      rw [List.drop_zero] at hn
      unfold upL; rw [if_neg hn]; rfl
    | succ k =>
      have hz : ((k + 1 : Nat) : Int) - 1 = (k : Int) := by omega
      rw [hz]
      have hlt : k < s.size := by omega
      have hget := Lib.data_getElem? s k hlt
      have HG := Lib.hid hget
      clear hget hz
      have hk0 : (0 : Int) ≤ k := by omega
      by_cases hc : s[k].toNat = 47
      · have ht : (((s[k].toNat : Nat) : Int) == 47) = true := by rw [beq_iff_eq]; omega
        have HC := Lib.hid hc
        clear hc
        go_wp2
        go_ret
        refine ⟨?_, rfl⟩
        have hkl : k < s.data.toList.length := by rw [← Lib.size_eq]; exact hlt
        have hd : s.data.toList = s.data.toList.take k ++ 47 :: s.data.toList.drop (k + 1) := by
          conv => lhs; rw [← List.take_append_drop k s.data.toList]
          rw [List.drop_eq_getElem_cons hkl]
          have := HG.out
          rw [List.getElem?_eq_getElem hkl] at this
          rw [Option.some.inj this, show s[k] = 47 from UInt8.toNat_inj.1 HC.out]
        have hu : upL s.data.toList = s.data.toList.take k := by
          conv => lhs; rw [hd]
          exact up_of _ _ HN.out
        rw [hu]
        show Ending.returned (Value.string (s.extract 0 k)) = _
        rw [ext_strV]; rfl
      · have ht : (((s[k].toNat : Nat) : Int) == 47) = false := by rw [beq_eq_false_iff_ne]; omega
        have HC := Lib.hid hc
        clear hc
        go_wp2
        go_round
        case rel =>
          refine ⟨k, by omega, by go_num, ?_⟩
          have hkl : k < s.data.toList.length := by rw [← Lib.size_eq]; exact hlt
          rw [List.drop_eq_getElem_cons hkl]
          have := HG.out
          rw [List.getElem?_eq_getElem hkl] at this
          rw [Option.some.inj this]
          intro hm
          simp at hm
          rcases hm with hm | hm
          · exact HC.out (by rw [← hm]; rfl)
          · exact HN.out hm
        case measure => simp [intOf] <;> omega
end Go.Proofs.YtomckoldfdeidaaGreatDoor

/- the document's words on trees: Find. -/
namespace Go.Proofs.YtomckoldfdeidaaGreatDoor
open Go.RowKit

def isAt (s : ByteArray) (x : It) : Bool := x.path.toList == s.toList
/-- The place of a path; -1: none. -/
def findI (xs : List It) (s : ByteArray) : Int := if (xs.find? (isAt s)).isSome then (xs.findIdx (isAt s) : Nat) else -1
theorem findI_at {xs : List It} {s : ByteArray} {k : Nat} {x : It} (hx : xs[k]? = some x) (h : isAt s x = true) (hn : (xs.take k).all (fun x => !(isAt s x)) = true) : findI xs s = k := by
  have hk : k < xs.length := (List.getElem?_eq_some_iff.1 hx).1
  have hxk : xs[k] = x := (List.getElem?_eq_some_iff.1 hx).2
  unfold findI
  rw [if_pos (by rw [List.find?_isSome]; exact ⟨x, List.mem_of_getElem? hx, h⟩)]
  have : xs.findIdx (isAt s) = k := by
    rw [List.findIdx_eq hk]
    refine ⟨by rw [hxk]; exact h, fun j hj => ?_⟩
    have := List.all_eq_true.1 hn xs[j] (List.mem_of_getElem? (by rw [List.getElem?_take, if_pos hj]; exact List.getElem?_eq_getElem (by omega)))
    simpa using this
  rw [this]
theorem findI_none {xs : List It} {s : ByteArray} (hn : xs.all (fun x => !(isAt s x)) = true) : findI xs s = -1 := by
  unfold findI
  rw [if_neg]
  intro q
  rw [List.find?_isSome] at q
  obtain ⟨x, hx, h⟩ := q
  have := List.all_eq_true.1 hn x hx
  rw [h] at this; cases this

set_option maxRecDepth 100000 in
set_option maxHeartbeats 1600000 in
theorem ref_Find (A : Option Addr) (n c : Nat) (xs : List It) (s : ByteArray) (hn : n = xs.length) (hxl : xs.length ≤ 1000000) (w : World) (hx : ItemsAt w A xs) :
    Calls Tryz.prog 16 #[.slice A n c, .string s] w fun e w' => e = .returned (.int .i64 (findI xs s)) ∧ w = w' := by
  have HX := Lib.hid hx; have HNN := Lib.hid hn
  have hnl : n ≤ 1000000 := by omega
  clear hx hn
  go_enter Tryz.func16, Tryz.ntmps16
  go_wp2
  go_loop [5] (fun i => ∃ k : Nat, k ≤ n ∧ i = .int .i64 k ∧ (xs.take k).all (fun x => !(isAt s x)) = true) (fun i => n - (intOf i).toNat)
  case atStart => exact ⟨0, Nat.zero_le _, rfl, rfl⟩
  case round =>
    obtain ⟨k, hk, rfl, hall⟩ := hrel
    have HALL := Lib.hid hall
    clear hall
    by_cases hlt : k < n
    · obtain ⟨x, hxk⟩ : ∃ x, xs[k]? = some x := ⟨_, List.getElem?_eq_getElem (by rw [← HNN.out]; exact hlt)⟩
      obtain ⟨a, rfl, q0, _⟩ := HX.out.2 k x hxk
      have hsn : (xs.take (k + 1)).all (fun x => !(isAt s x)) = ((xs.take k).all (fun x => !(isAt s x)) && !(isAt s x)) := by
        rw [List.take_add_one, hxk]; simp
      have HSN := Lib.hid hsn; have HXK := Lib.hid hxk
      clear hsn hxk
      cases hq : isAt s x
      · have ht : (x.path.toList == s.toList) = false := hq
        have HQ := Lib.hid hq
        clear hq
        go_wp2
        go_round
        case rel => exact ⟨k + 1, by omega, by go_num, by rw [HSN.out, HALL.out, HQ.out]; rfl⟩
        case measure => simp [intOf]; omega
      · have ht : (x.path.toList == s.toList) = true := hq
        have HQ := Lib.hid hq
        clear hq
        go_wp2
        go_ret
        exact ⟨ret_int (findI_at HXK.out HQ.out HALL.out).symm, rfl⟩
    · have hkn : k = n := by omega
      subst hkn
      go_wp2
      go_ret
      refine ⟨ret_int ?_, rfl⟩
      have := HALL.out
      rw [HNN.out, List.take_length] at this
      exact (findI_none this).symm
end Go.Proofs.YtomckoldfdeidaaGreatDoor

/- the document's words on trees: alone. -/
namespace Go.Proofs.YtomckoldfdeidaaGreatDoor
open Go.RowKit

set_option maxRecDepth 100000 in
set_option maxHeartbeats 1600000 in
theorem ref_alone (x : It) (hp : x.path.size ≤ 1000000000) (hd : x.data.size ≤ 1000000000) (w : World) :
    Calls Tryz.prog 14 #[.agg #[.string x.path, .int .i64 x.kind, .int .i64 x.mode, .string x.data, .string x.same]] w fun e w' => e = .returned (.int .i64 (aloneE x)) ∧ Below w.heap.size w w' := by
  have hpl := fun w => ref_Plain x.path hp w
  have hrt := fun w => ref_Right x.data hd w
  go_enter Tryz.func14, Tryz.ntmps14
  go_wp2_with (first | (go_at_call 24; with_reducible refine (hpl _).mono ?_))
  rintro e w1 ⟨rfl, hb1⟩
  have hbk : w1.heap[w.heap.size]? = some (.cells #[.string x.path, .int .i64 x.kind, .int .i64 x.mode, .string x.data, .string x.same] 48 (0, 0)) := by
    rw [hb1.block w.heap.size (by simp)]; exact (MapKept.heap_alloc w _).1
  have hbw : Below w.heap.size w w1 := ((Below.refl _ _).alloc (Nat.le_refl _) _).trans (hb1.mono (by simp))
  have k1 : w1.cell? ⟨w.heap.size, 1, none⟩ = some (.int .i64 x.kind) := by rw [Lib.cell_of_heap hbk]; rfl
  have k2 : w1.cell? ⟨w.heap.size, 2, none⟩ = some (.int .i64 x.mode) := by rw [Lib.cell_of_heap hbk]; rfl
  have k3 : w1.cell? ⟨w.heap.size, 3, none⟩ = some (.string x.data) := by rw [Lib.cell_of_heap hbk]; rfl
  have k4 : w1.cell? ⟨w.heap.size, 4, none⟩ = some (.string x.same) := by rw [Lib.cell_of_heap hbk]; rfl
  have HBW := Lib.hid hbw
  clear hb1 hbk hbw hpl
  cases hr : rightL x.data.data.toList <;> cases hq : plainL x.path.data.toList
  all_goals
    rw [hr] at hrt
    have HR := Lib.hid hr; have HQ := Lib.hid hq
    clear hr hq
    go_wp2_with (go_at_call 25; (with_reducible refine (hrt _).mono ?_); rintro e w' ⟨rfl, rfl⟩)
  all_goals
    go_ret
    refine ⟨ret_int ?_, HBW.out⟩
    go_light
    have hr := HR.out
    have hq := HQ.out
    clear HR HQ HBW k1 k2 k3 k4 hrt
    simp_all [aloneE, bodyE, modeB]
    try omega
end Go.Proofs.YtomckoldfdeidaaGreatDoor

/- PLAIN WORDS: a tree's check, as the document has it; it is the program's. -/
namespace Go.Proofs.YtomckoldfdeidaaGreatDoor
open Go Go.RowKit

def sameBad (pre : List It) (x : It) : Bool :=
  match pre.find? (isAt x.same) with
  | none => true
  | some o => decide (o.kind ≠ 1) || !o.same.toList.isEmpty || decide (o.mode ≠ x.mode) || !x.data.toList.isEmpty
/-- Does an item stand behind the last one? true: no. -/
def lateB (pre : List It) (x : It) : Bool := match pre.getLast? with | some y => leB x.path y.path | none => false
/-- An error of an item behind others, as the document has it. -/
def refOne (pre : List It) (x : It) : Int :=
  if aloneE x ≠ 0 then aloneE x
  else if lateB pre x = true then 13
  else if upL x.path.data.toList ≠ [] ∧ ((pre.find? (isAt ⟨(upL x.path.data.toList).toArray⟩)).map (·.kind)).getD 0 ≠ 2 then 14
  else if x.same.toList ≠ [] ∧ sameBad pre x = true then 22
  else 0
def refFrom : List It → List It → Nat → Int × Int
  | _, [], _ => (0, 0)
  | pre, x :: r, k => if refOne pre x ≠ 0 then (refOne pre x, (k : Int)) else refFrom (pre ++ [x]) r (k + 1)
end Go.Proofs.YtomckoldfdeidaaGreatDoor

/- PLAIN WORDS: the program's check is the document's. -/
namespace Go.Proofs.YtomckoldfdeidaaGreatDoor
open Go Go.RowKit

theorem less_total : ∀ (a b : List UInt8), Op.bytesLess a b = false → a ≠ b → Op.bytesLess b a = true
  | [], [], _, h => absurd rfl h
  | [], _ :: _, h, _ => by simp [Op.bytesLess] at h
  | _ :: _, [], _, _ => by simp [Op.bytesLess]
  | x :: a, y :: b, h, hn => by
    simp only [Op.bytesLess, Bool.or_eq_false_iff, decide_eq_false_iff_not, Bool.and_eq_false_iff] at h
    simp only [Op.bytesLess, Bool.or_eq_true, decide_eq_true_eq, Bool.and_eq_true]
    obtain ⟨h1, h2⟩ := h
    by_cases e : x = y
    · subst e
      refine .inr ⟨by simp, less_total a b ?_ (fun q => hn (by rw [q]))⟩
      rcases h2 with h2 | h2
      · simp at h2
      · exact h2
    · left
      have h3 : ¬ x.toNat < y.toNat := h1
      have h4 : x.toNat ≠ y.toNat := fun q => e (UInt8.toNat_inj.1 q)
      show y.toNat < x.toNat
      omega
theorem less_trans : ∀ (a b c : List UInt8), Op.bytesLess a b = true → Op.bytesLess b c = true → Op.bytesLess a c = true
  | _, _, [], _, h => by simp [Op.bytesLess] at h
  | _, [], _ :: _, h, _ => by simp [Op.bytesLess] at h
  | [], _ :: _, _ :: _, _, _ => by simp [Op.bytesLess]
  | x :: a, y :: b, z :: c, h, k => by
    simp only [Op.bytesLess, Bool.or_eq_true, decide_eq_true_eq, Bool.and_eq_true, beq_iff_eq] at h k ⊢
    rcases h with h | ⟨rfl, h⟩
    · rcases k with k | ⟨rfl, k⟩
      · left; show x.toNat < z.toNat
        have h' : x.toNat < y.toNat := h
        have k' : y.toNat < z.toNat := k
        omega
      · left; exact h
    · rcases k with k | ⟨rfl, k⟩
      · left; exact k
      · right; exact ⟨rfl, less_trans a b c h k⟩
theorem leB_refl (a : ByteArray) : leB a a = true := by unfold leB; simp
theorem leB_trans {a b c : ByteArray} (h : leB a b = true) (k : leB b c = true) : leB a c = true := by
  unfold leB at *
  simp only [Bool.or_eq_true, beq_iff_eq] at *
  rcases h with h | h
  · rcases k with k | k
    · exact .inl (less_trans _ _ _ h k)
    · exact .inl (k ▸ h)
  · rw [h]; exact k
theorem leB_not {a b : ByteArray} (h : leB a b = false) : leB b a = true := by
  unfold leB at *
  simp only [Bool.or_eq_false_iff, beq_eq_false_iff_ne] at h
  simp only [Bool.or_eq_true, beq_iff_eq]
  exact .inl (less_total _ _ h.1 h.2)
end Go.Proofs.YtomckoldfdeidaaGreatDoor

/- PLAIN WORDS: the program's check is the document's: the law. -/
namespace Go.Proofs.YtomckoldfdeidaaGreatDoor
open Go Go.RowKit

def ownI (x : It) : Bool := decide (x.same.toList = [] ∧ x.kind = 1)
theorem isAt_iff {s : ByteArray} {x : It} : isAt s x = true ↔ x.path = s := by
  unfold isAt
  rw [beq_iff_eq]
  constructor
  · intro h; rw [ByteArray.toList_eq, ByteArray.toList_eq] at h; apply ByteArray.ext; exact Array.ext' h
  · intro h; rw [h]
def lastP (pre : List It) : ByteArray := (pre.getLast?.map (·.path)).getD ⟨#[]⟩

theorem find_snoc {pre : List It} {x : It} {s : ByteArray} (hx : ∀ y ∈ pre, y.path ≠ x.path) : (pre ++ [x]).find? (isAt s) = if s = x.path then some x else pre.find? (isAt s) := by
  rw [List.find?_append]
  by_cases h : s = x.path
  · subst h
    rw [if_pos rfl]
    have : pre.find? (isAt x.path) = none := by
      rw [List.find?_eq_none]
      intro y hy q
      exact hx y hy (isAt_iff.1 q)
    rw [this]
    have h2 : isAt x.path x = true := isAt_iff.2 rfl
    simp [h2]
  · rw [if_neg h]
    have : isAt s x = false := by
      rw [Bool.eq_false_iff]; intro q; exact h (isAt_iff.1 q).symm
    simp [this]

theorem addE_ref {pre : List It} {kf : ByteArray → Option Int} {ff : ByteArray → Option It} {x : It}
    (hk : ∀ s, kf s = (pre.find? (isAt s)).map (·.kind)) (hf : ∀ s, ff s = (pre.find? (isAt s)).filter ownI) : addE kf ff (lastP pre) x = refOne pre x := by
  unfold addE refOne
  by_cases h0 : aloneE x ≠ 0
  · rw [if_pos h0, if_pos h0]
  rw [if_neg h0, if_neg h0]
  have hp : x.path.toList ≠ [] := by
    intro q
    have hq : x.path.data.toList = [] := by rw [ByteArray.toList_eq] at q; exact q
    have : plainL x.path.data.toList = false := by rw [hq]; decide
    have h11 : aloneE x = 11 := by unfold aloneE; rw [this]; rfl
    rw [h11] at h0
    exact h0 (by decide)
  have h1 : leB x.path (lastP pre) = lateB pre x := by
    unfold lastP lateB
    cases pre.getLast? with
    | none =>
      show leB x.path ⟨#[]⟩ = false
      unfold leB
      have : (⟨#[]⟩ : ByteArray).toList = [] := by rw [ByteArray.toList_eq]
      rw [this]
      cases hq : x.path.toList with
      | nil => exact absurd hq hp
      | cons a b => rfl
    | some y => rfl
  rw [h1, hk, hf]
  by_cases h2 : lateB pre x = true
  · rw [if_pos h2, if_pos h2]
  rw [if_neg h2, if_neg h2]
  by_cases h3 : upL x.path.data.toList ≠ [] ∧ ((pre.find? (isAt ⟨(upL x.path.data.toList).toArray⟩)).map (·.kind)).getD 0 ≠ 2
  · rw [if_pos h3, if_pos h3]
  rw [if_neg h3, if_neg h3]
  unfold sameBad
  by_cases h4 : x.same.toList ≠ []
  · rw [if_pos h4]
    cases hq : pre.find? (isAt x.same) with
    | none => simp [h4]
    | some o =>
      by_cases ho : ownI o = true
      · have ho2 := of_decide_eq_true ho
        simp [Option.filter, ho, h4, ho2.1, ho2.2]
      · have ho2 : ¬ (o.same.toList = [] ∧ o.kind = 1) := fun q => ho (decide_eq_true q)
        have hb : (decide (o.kind ≠ 1) || !o.same.toList.isEmpty || decide (o.mode ≠ x.mode) || !x.data.toList.isEmpty) = true := by
          by_cases hk1 : o.kind = 1
          · have hs1 : o.same.toList ≠ [] := fun q => ho2 ⟨q, hk1⟩
            have : o.same.toList.isEmpty = false := by
              cases hq2 : o.same.toList with
              | nil => exact absurd hq2 hs1
              | cons a b => rfl
            rw [this]; simp
          · simp [hk1]
        have hfl : (some o : Option It).filter ownI = none := by simp [Option.filter, ho]
        rw [hfl]
        show (22 : Int) = _
        rw [if_pos]
        exact ⟨h4, hb⟩
  · rw [if_neg h4, if_neg (fun q => h4 q.1)]

theorem refOne_late {pre : List It} {x : It} (h : refOne pre x = 0) : lateB pre x = false := by
  unfold refOne at h
  by_cases h0 : aloneE x ≠ 0
  · rw [if_pos h0] at h; exact absurd h h0
  rw [if_neg h0] at h
  cases hq : lateB pre x with
  | false => rfl
  | true => rw [hq] at h; simp at h

theorem setB_find {α : Type} {pre : List It} {x : It} (hx : ∀ y ∈ pre, y.path ≠ x.path) (g : It → α) {kf : ByteArray → Option α} (hk : ∀ s, kf s = (pre.find? (isAt s)).map g) (s : ByteArray) :
    setB kf x.path (g x) s = ((pre ++ [x]).find? (isAt s)).map g := by
  rw [find_snoc hx]
  unfold setB
  split
  · rfl
  · exact hk s

theorem addF_find {pre : List It} {x : It} (hx : ∀ y ∈ pre, y.path ≠ x.path) {ff : ByteArray → Option It} (hf : ∀ s, ff s = (pre.find? (isAt s)).filter ownI) (s : ByteArray) :
    addF ff x s = ((pre ++ [x]).find? (isAt s)).filter ownI := by
  rw [find_snoc hx]
  unfold addF
  by_cases ho : x.same.toList = [] ∧ x.kind = 1
  · rw [if_pos ho]
    unfold setB
    split
    · have : ownI x = true := decide_eq_true ho
      simp [Option.filter, this]
    · exact hf s
  · rw [if_neg ho]
    split
    · rename_i h
      have h1 : ownI x = false := decide_eq_false ho
      rw [hf s]
      have : pre.find? (isAt s) = none := by
        rw [List.find?_eq_none]
        intro y hy q
        exact hx y hy (by rw [isAt_iff.1 q, h])
      rw [this]
      simp [Option.filter, h1]
    · exact hf s

theorem lastP_snoc (pre : List It) (x : It) : lastP (pre ++ [x]) = x.path := by unfold lastP; simp

theorem chk_ref : ∀ (xs pre : List It) (k : Nat) (kf : ByteArray → Option Int) (ff : ByteArray → Option It) (last : ByteArray), last = lastP pre → (∀ s, kf s = (pre.find? (isAt s)).map (·.kind)) →
    (∀ s, ff s = (pre.find? (isAt s)).filter ownI) → (∀ y ∈ pre, leB y.path (lastP pre) = true) → chkFrom kf ff last xs k = refFrom pre xs k
  | [], _, _, _, _, _, _, _, _, _ => rfl
  | x :: r, pre, k, kf, ff, last, hl, hk, hf, hle => by
    subst hl
    unfold chkFrom refFrom
    rw [addE_ref hk hf]
    by_cases h0 : refOne pre x ≠ 0
    · rw [if_pos h0, if_pos h0]
    · rw [if_neg h0, if_neg h0]
      have hlate := refOne_late (by simpa using h0)
      have hgt : ∀ y ∈ pre, leB x.path (lastP pre) = false := by
        intro y hy
        unfold lateB at hlate
        unfold lastP
        cases hg : pre.getLast? with
        | none => rw [List.getLast?_eq_none_iff] at hg; rw [hg] at hy; cases hy
        | some z => rw [hg] at hlate; exact hlate
      have hx : ∀ y ∈ pre, y.path ≠ x.path := by
        intro y hy q
        have h1 := hle y hy
        rw [q, hgt y hy] at h1; cases h1
      exact chk_ref r (pre ++ [x]) (k + 1) _ _ _ (lastP_snoc pre x).symm (setB_find hx (·.kind) hk) (addF_find hx hf) (by
        intro y hy
        rw [lastP_snoc]
        rcases List.mem_append.1 hy with hy | hy
        · exact leB_trans (hle y hy) (leB_not (hgt y hy))
        · simp at hy; subst hy; exact leB_refl _)

/-- The document's answer for a whole tree. -/
theorem chkE_ref (xs : List It) : chkE xs = if xs.length = 0 then (12, 0) else if 4096 < xs.length then (24, 0) else refFrom [] xs 0 := by
  unfold chkE
  rw [chk_ref xs [] 0 (fun _ => none) (fun _ => none) ⟨#[]⟩ rfl (fun _ => rfl) (fun _ => rfl) (fun y hy => by cases hy)]
end Go.Proofs.YtomckoldfdeidaaGreatDoor

/- the document's words on trees: Check. -/
namespace Go.Proofs.YtomckoldfdeidaaGreatDoor
open Go.RowKit

theorem quiet_same {P : Program} {f : FuncId} {args : Array Value} {w : World} {n : Nat} {v : Value}
    (h : Calls P f args (w.drewN n) fun e w' => e = .returned v ∧ w.drewN n = w') : Calls P f args (w.drewN n) fun e w'' => e = .returned v ∧ ∃ m, w'' = w.drewN m :=
  Calls.quiet_of_same (h.mono fun _ _ ⟨a, b⟩ => ⟨a, b.symm⟩)

theorem find_take (xs : List It) (s : ByteArray) (k : Nat) : ((xs.take k).find? (isAt s) = none ∧ findI (xs.take k) s = -1) ∨
    ∃ (j : Nat) (o : It), j < k ∧ xs[j]? = some o ∧ (xs.take k).find? (isAt s) = some o ∧ findI (xs.take k) s = (j : Int) := by
  cases h : (xs.take k).find? (isAt s) with
  | none => left; exact ⟨rfl, by unfold findI; rw [h]; rfl⟩
  | some o =>
    right
    have hx : ∃ x ∈ xs.take k, isAt s x = true := ⟨o, List.mem_of_find?_eq_some h, List.find?_some h⟩
    have hlt := List.findIdx_lt_length_of_exists hx
    have hg : (xs.take k)[(xs.take k).findIdx (isAt s)]? = some o := by
      have := List.find?_eq_getElem?_findIdx (xs := xs.take k) (p := isAt s)
      rw [← this]; exact h
    refine ⟨(xs.take k).findIdx (isAt s), o, by rw [List.length_take] at hlt; omega, ?_, rfl, by unfold findI; rw [h]; rfl⟩
    rw [List.getElem?_take] at hg
    split at hg
    · exact hg
    · cases hg

def refE (xs : List It) : Int × Int := if xs.length = 0 then (12, 0) else if 4096 < xs.length then (24, 0) else refFrom [] xs 0
theorem refE_chk (xs : List It) : refE xs = chkE xs := (chkE_ref xs).symm

/-- What lies there in a round: the item's own box, the items, what lay below. -/
def RndAt (W w : World) (bx : Nat) (a : Addr) (x : It) (xs : List It) : Prop :=
  w.heap[bx]? = some (.cells #[.string x.path, .int .i64 x.kind, .int .i64 x.mode, .string x.data, .string x.same] 48 (0, 0)) ∧ ItemsAt w (some a) xs ∧ Below W.heap.size W w
theorem RndAt.drewN {W w : World} {bx : Nat} {a : Addr} {x : It} {xs : List It} (h : RndAt W w bx a x xs) (q : Nat) : RndAt W (w.drewN q) bx a x xs := ⟨h.1, h.2.1, belowN h.2.2 q⟩
theorem RndAt.box {W w : World} {bx : Nat} {a : Addr} {x : It} {xs : List It} (h : RndAt W w bx a x xs) :
    w.cell? ⟨bx, 0, none⟩ = some (.string x.path) ∧ w.cell? ⟨bx, 1, none⟩ = some (.int .i64 x.kind) ∧ w.cell? ⟨bx, 2, none⟩ = some (.int .i64 x.mode) ∧ w.cell? ⟨bx, 3, none⟩ = some (.string x.data) ∧ w.cell? ⟨bx, 4, none⟩ = some (.string x.same) :=
  ⟨cell_blk h.1 0 rfl, cell_blk h.1 1 rfl, cell_blk h.1 2 rfl, cell_blk h.1 3 rfl, cell_blk h.1 4 rfl⟩
theorem RndAt.item {W w : World} {bx : Nat} {a : Addr} {x o : It} {xs : List It} (h : RndAt W w bx a x xs) {j : Nat} (ho : xs[j]? = some o) : ItemAt w (a.add (j * 5)) o := by
  obtain ⟨a', ha, hi⟩ := h.2.1.2 j o ho
  obtain rfl : a = a' := Option.some.inj ha
  exact hi
theorem ItemsAt.take {w : World} {A : Option Addr} {xs : List It} (h : ItemsAt w A xs) (k : Nat) : ItemsAt w A (xs.take k) := by
  refine ⟨by have := h.1; rw [List.length_take]; omega, fun i x hx => h.2 i x ?_⟩
  rw [List.getElem?_take] at hx
  split at hx
  · exact hx
  · cases hx

/-- What comes of an item that is right by itself and stands behind the last one. -/
theorem refOne_rest {pre : List It} {x : It} (h0 : aloneE x = 0) (h1 : lateB pre x = false) :
    refOne pre x = if upL x.path.data.toList ≠ [] ∧ ((pre.find? (isAt ⟨(upL x.path.data.toList).toArray⟩)).map (·.kind)).getD 0 ≠ 2 then 14
      else if x.same.toList ≠ [] ∧ sameBad pre x = true then 22 else 0 := by
  unfold refOne
  rw [if_neg (by rw [h0]; simp), if_neg (by rw [h1]; simp)]

theorem late_first (xs : List It) (x : It) : lateB (xs.take 0) x = false := rfl
theorem late_next {xs : List It} {x y : It} {j : Nat} (h : xs[j]? = some y) : lateB (xs.take (j + 1)) x = leB x.path y.path := by
  unfold lateB
  rw [List.take_add_one, h]
  simp

theorem ifB {b : Bool} {α : Type} (h : b = true) (x y : α) : (if b then x else y) = x := by rw [h]; rfl

theorem bne_dec (a b : Int) : decide (a ≠ b) = (a != b) := by rw [Bool.eq_iff_iff]; simp
theorem sameBad_none {pre : List It} {x : It} (h : pre.find? (isAt x.same) = none) : sameBad pre x = true := by unfold sameBad; rw [h]
theorem sameBad_some {pre : List It} {x o : It} (h : pre.find? (isAt x.same) = some o) : sameBad pre x = ((o.kind != 1) || !o.same.toList.isEmpty || (o.mode != x.mode) || !x.data.toList.isEmpty) := by
  unfold sameBad; rw [h]; simp only [bne_dec]
theorem ways4 : ∀ K S M D : Bool, (K || S || M || D) = true → K = true ∨ (K = false ∧ S = true) ∨ (K = false ∧ S = false ∧ M = true) ∨ (K = false ∧ S = false ∧ M = false ∧ D = true) := by decide
theorem ways0 : ∀ K S M D : Bool, (K || S || M || D) = false → K = false ∧ S = false ∧ M = false ∧ D = false := by decide
theorem ne_isEmpty {α : Type} {l : List α} (h : l ≠ []) : (!l.isEmpty) = true := by cases l with | nil => exact absurd rfl h | cons a b => rfl

set_option maxRecDepth 100000 in
set_option maxHeartbeats 6400000 in
theorem ref_Check (A : Option Addr) (n c : Nat) (xs : List It) (w : World) (hn : n = xs.length) (hnc : n ≤ c) (hsz : ∀ x ∈ xs, x.path.size ≤ 1000000000 ∧ x.data.size ≤ 1000000000) (hx : ItemsAt w A xs) :
    Calls Tryz.prog 8 #[.slice A n c] w fun e w' => e = .returned (.tuple #[.int .i64 (refE xs).1, .int .i64 (refE xs).2]) ∧ Below w.heap.size w w' := by
  by_cases h0 : n = 0
  · have e1 : refE xs = (12, 0) := by unfold refE; rw [if_pos (by omega)]
    rw [e1]
    have hz : ((n : Int) == 0) = true := by simp [h0]
    clear hx hsz e1
    go_enter Tryz.func8, Tryz.ntmps8
    go_wp2
    go_ret2
    exact ⟨rfl, Below.refl _ _⟩
  by_cases h1 : 4096 < n
  · have e1 : refE xs = (24, 0) := by unfold refE; rw [if_neg (by omega), if_pos (by omega)]
    rw [e1]
    have hz : ((n : Int) == 0) = false := by rw [beq_eq_false_iff_ne]; omega
    have hz2 : (4096 : Int) < n := by omega
    clear hx hsz e1
    go_enter Tryz.func8, Tryz.ntmps8
    go_wp2
    go_ret2
    exact ⟨rfl, Below.refl _ _⟩
  have e1 : refE xs = refFrom [] xs 0 := by unfold refE; rw [if_neg (by omega), if_neg (by omega)]
  have hz : ((n : Int) == 0) = false := by rw [beq_eq_false_iff_ne]; omega
  have hz2 : decide ((4096 : Int) < n) = false := by rw [decide_eq_false_iff_not]; omega
  have hz3 : (n : Int) ≤ 4096 := by omega
  obtain ⟨r, hr⟩ : ∃ r, r = refE xs := ⟨_, rfl⟩
  rw [← hr] at e1 ⊢
  have E1 := Lib.hid e1; have HX := Lib.hid hx; have HSZ := Lib.hid hsz; have HNN := Lib.hid hn
  clear e1 hx hsz hn hr
  go_enter Tryz.func8, Tryz.ntmps8
  go_wp2
  go_loopw [4] (fun i wr => ∃ k : Nat, k ≤ n ∧ i = .int .i64 k ∧ refFrom (xs.take k) (xs.drop k) k = r ∧ Below w.heap.size w wr) (fun i _ => n - (intOf i).toNat)
  case atStart => exact ⟨0, Nat.zero_le _, rfl, E1.out.symm, Below.refl _ _⟩
  case round =>
    obtain ⟨k, hk, rfl, hch, hbw⟩ := hrel
    by_cases hlt : k < n
    · obtain ⟨x, hxk⟩ : ∃ x, xs[k]? = some x := ⟨_, List.getElem?_eq_getElem (by rw [← HNN.out]; exact hlt)⟩
      obtain ⟨hs1, hs2⟩ := HSZ.out x (List.mem_of_getElem? hxk)
      obtain ⟨a, rfl, hi0, hi1, hi2, hi3, hi4⟩ := (HX.out.below (Nat.le_refl _) hbw).2 k x hxk
      have hsw := hbw.size
      have hal := ref_alone x hs1 hs2 (wr.alloc (.cells #[.string x.path, .int .i64 x.kind, .int .i64 x.mode, .string x.data, .string x.same] 48))
      have hd : xs.drop k = x :: xs.drop (k + 1) := by
        have hl : k < xs.length := by rw [← HNN.out]; exact hlt
        rw [List.drop_eq_getElem_cons hl]
        rw [List.getElem?_eq_getElem hl] at hxk
        rw [Option.some.inj hxk]
      have ht : xs.take k ++ [x] = xs.take (k + 1) := by rw [List.take_add_one, hxk]; rfl
      rw [hd, refFrom, ht] at hch
      obtain ⟨E, hE⟩ : ∃ E, E = aloneE x := ⟨_, rfl⟩
      rw [← hE] at hal
      have HD := Lib.hid hd; have HK := Lib.hid hxk; have HCH := Lib.hid hch; have HBW := Lib.hid hbw; have HE := Lib.hid hE
      have hupc := fun w => ref_up x.path hs1 w
      have HS1 := Lib.hid hs1
      clear hd hxk hch hbw hE ht hs1 hs2
      by_cases he : E = 0
      · subst he
        go_wp2_with (go_at_call 14; with_reducible refine hal.mono ?_)
        rintro e w1 ⟨rfl, hb1⟩
        have hbk : w1.heap[wr.heap.size]? = some (.cells #[.string x.path, .int .i64 x.kind, .int .i64 x.mode, .string x.data, .string x.same] 48 (0, 0)) := by
          rw [hb1.block _ (by simp)]; exact (MapKept.heap_alloc wr _).1
        have hbw1 : Below w.heap.size w w1 := (HBW.out.alloc hsw _).trans (hb1.mono (by simp; omega))
        have hR : RndAt w w1 wr.heap.size a x xs := ⟨hbk, HX.out.below (Nat.le_refl _) hbw1, hbw1⟩
        obtain ⟨c0, c1, c2, c3, c4⟩ := hR.box
        have HR := Lib.hid hR
        clear hb1 hbk hbw1 hR hal hi0 hi1 hi2 hi3 hi4
        have hkc : k ≤ c := by omega
        have hmid : (k = 0 ∧ lateB (xs.take k) x = false) ∨ ∃ (j : Nat) (y : It), k = j + 1 ∧ xs[j]? = some y ∧ lateB (xs.take k) x = leB x.path y.path := by
          cases k with
          | zero => exact .inl ⟨rfl, rfl⟩
          | succ j =>
            right
            obtain ⟨y, hy⟩ : ∃ y, xs[j]? = some y := ⟨_, List.getElem?_eq_getElem (by rw [← HNN.out]; omega)⟩
            exact ⟨j, y, rfl, hy, late_next hy⟩
        cases hlate : lateB (xs.take k) x
        · have hmid2 : decide (0 < k) = false ∨ ∃ (j : Nat) (y : It), decide (0 < k) = true ∧ w1.cell? (a.add (j * 5)) = some (.string y.path) ∧ j < n ∧ IntKind.i64.wrap ((k : Int) - 1) = (j : Int) ∧ (Op.bytesLess x.path.toList y.path.toList || x.path.toList == y.path.toList) = false := by
            rcases hmid with ⟨hk0, _⟩ | ⟨j, y, hkj, hyj, hl⟩
            · left; rw [decide_eq_false_iff_not]; omega
            · right
              refine ⟨j, y, by rw [decide_eq_true_eq]; omega, (HR.out.item hyj).1, by omega, by rw [IntWalk.i64_in _ (by omega)]; omega, ?_⟩
              rw [hlate] at hl; exact hl.symm
          have hrest := refOne_rest HE.out.symm hlate
          have HRE := Lib.hid hrest
          clear hmid hlate hrest
          obtain ⟨u, hu⟩ : ∃ u : ByteArray, u = ⟨(upL x.path.data.toList).toArray⟩ := ⟨_, rfl⟩
          have hsu : strV (upL x.path.data.toList) = .string u := by rw [hu]; rfl
          rw [hsu] at hupc
          have hue : u.toList = upL x.path.data.toList := by rw [hu, toList_mk]
          have HU := Lib.hid hu; have HUE := Lib.hid hue
          clear hsu hu hue
          have hfu := fun W (h : ItemsAt W (some a) xs) => ref_Find (some a) k c (xs.take k) u (by rw [List.length_take, ← HNN.out]; omega) (by rw [List.length_take]; omega) W (h.take k)
          have hfs := fun W (h : ItemsAt W (some a) xs) => ref_Find (some a) k c (xs.take k) x.same (by rw [List.length_take, ← HNN.out]; omega) (by rw [List.length_take]; omega) W (h.take k)
          have HFU := Lib.hid hfu; have HFS := Lib.hid hfs
          clear hfu hfs
          rcases hmid2 with hg0 | ⟨jj, yy, hg0, y0, hjn, hw1, hl2⟩
          all_goals
            go_wp2
            go_big_quiet (fail)
            have HQ := Lib.hid (HR.out.drewN nq)
            clear HR c0 c1 c2 c3 c4 hg0
            try clear y0 hjn hw1 hl2
            generalize w1.drewN nq = wq at *
            obtain ⟨c0, c1, c2, c3, c4⟩ := HQ.out.box
            have hfq := HFU.out wq HQ.out.2.1
            by_cases h14 : upL x.path.data.toList ≠ [] ∧ (((xs.take k).find? (isAt u)).map (·.kind)).getD 0 ≠ 2
            · have hone : refOne (xs.take k) x = 14 := by rw [HRE.out, if_pos (by rw [← HU.out]; exact h14)]
              have hc := HCH.out
              rw [hone, if_pos (by decide)] at hc
              have HC := Lib.hid hc
              have hub : (!u.toList.isEmpty) = true := by rw [HUE.out]; exact ne_isEmpty h14.1
              obtain ⟨_, h14b⟩ := h14
              clear hone hc
              rcases find_take xs u k with ⟨hf0, hfi⟩ | ⟨j2, o2, hj2, ho2, hf2, hfi⟩
              · rw [hfi] at hfq
                clear h14b hf0 hfi
                go_wp2_with (first | (go_at_call 15; (with_reducible refine (hupc _).mono ?_); rintro e w' ⟨rfl, rfl⟩) | (go_at_call 16; (with_reducible refine hfq.mono ?_); rintro e w' ⟨rfl, rfl⟩))
                go_ret2
                rw [← HC.out]
                exact ⟨rfl, HQ.out.2.2⟩
              · rw [hfi] at hfq
                rw [hf2] at h14b
                obtain ⟨_, y1, _⟩ := HQ.out.item ho2
                have hk2 : (o2.kind != 2) = true := by rw [bne_iff_ne]; exact h14b
                have hj3 : j2 < n := by omega
                clear h14b hf2 hfi ho2
                go_wp2_with (first | (go_at_call 15; (with_reducible refine (hupc _).mono ?_); rintro e w' ⟨rfl, rfl⟩) | (go_at_call 16; (with_reducible refine hfq.mono ?_); rintro e w' ⟨rfl, rfl⟩))
                go_ret2
                rw [← HC.out]
                exact ⟨rfl, HQ.out.2.2⟩
            · have hrest2 : refOne (xs.take k) x = if x.same.toList ≠ [] ∧ sameBad (xs.take k) x = true then 22 else 0 := by rw [HRE.out, if_neg (by rw [← HU.out]; exact h14)]
              have HR2 := Lib.hid hrest2
              have hup3 : (!u.toList.isEmpty) = false ∨ ((!u.toList.isEmpty) = true ∧ ∃ (j2 : Nat) (o2 : It), j2 < n ∧ findI (xs.take k) u = (j2 : Int) ∧ (o2.kind != 2) = false ∧ wq.cell? ⟨(a.add (j2 * 5)).block, (a.add (j2 * 5)).off + 1, none⟩ = some (.int .i64 o2.kind)) := by
                by_cases hu0 : upL x.path.data.toList = []
                · left; rw [HUE.out, hu0]; rfl
                · right
                  refine ⟨by rw [HUE.out]; exact ne_isEmpty hu0, ?_⟩
                  rcases find_take xs u k with ⟨hf0, hfi⟩ | ⟨j2, o2, hj2, ho2, hf2, hfi⟩
                  · exfalso; apply h14; refine ⟨hu0, ?_⟩; rw [hf0]; simp
                  · refine ⟨j2, o2, by omega, hfi, ?_, (HQ.out.item ho2).2.1⟩
                    have : o2.kind = 2 := by
                      by_cases q : o2.kind = 2
                      · exact q
                      · exfalso; apply h14; refine ⟨hu0, ?_⟩; rw [hf2]; exact q
                    rw [this]; rfl
              clear h14 hrest2
              by_cases hse : x.same.toList = []
              · have hone : refOne (xs.take k) x = 0 := by rw [HR2.out, if_neg (fun q => q.1 hse)]
                have hsb : (!x.same.toList.isEmpty) = false := by rw [hse]; rfl
                have hc := HCH.out
                rw [hone, if_neg (by decide)] at hc
                have HC := Lib.hid hc
                clear hone hc hse
                rcases hup3 with hub | ⟨hub, j2, o2, hj3, hfi, hk2, y1⟩
                · go_wp2_with (first | (go_at_call 15; (with_reducible refine (hupc _).mono ?_); rintro e w' ⟨rfl, rfl⟩))
                  go_roundw
                  case rel => exact ⟨k + 1, by omega, by go_num, HC.out, HQ.out.2.2⟩
                  case measure => simp [intOf]; omega
                · rw [hfi] at hfq
                  clear hfi
                  go_wp2_with (first | (go_at_call 15; (with_reducible refine (hupc _).mono ?_); rintro e w' ⟨rfl, rfl⟩) | (go_at_call 16; (with_reducible refine hfq.mono ?_); rintro e w' ⟨rfl, rfl⟩))
                  go_roundw
                  case rel => exact ⟨k + 1, by omega, by go_num, HC.out, HQ.out.2.2⟩
                  case measure => simp [intOf]; omega
              · have hsb : (!x.same.toList.isEmpty) = true := ne_isEmpty hse
                have hfsq := fun q => HFS.out _ (HQ.out.drewN q).2.1
                cases hbad : sameBad (xs.take k) x
                · have hone : refOne (xs.take k) x = 0 := by rw [HR2.out, if_neg (fun q => by rw [hbad] at q; cases q.2)]
                  have hc := HCH.out
                  rw [hone, if_neg (by decide)] at hc
                  have HC := Lib.hid hc
                  obtain ⟨j4, o4, hj4, ho4, hf4, hfi4⟩ := (find_take xs x.same k).resolve_left (fun q => by rw [sameBad_none q.1] at hbad; cases hbad)
                  rw [sameBad_some hf4] at hbad
                  obtain ⟨g1, g2, g3, g4⟩ := ways0 _ _ _ _ hbad
                  rw [hfi4] at hfsq
                  have hj5 : j4 < n := by omega
                  have hj40 : decide ((j4 : Int) < 0) = false := by rw [decide_eq_false_iff_not]; omega
                  have HO4 := Lib.hid ho4
                  clear hone hc hse hbad hf4 hfi4 ho4
                  rcases hup3 with hub | ⟨hub, j2, o2, hj3, hfi, hk2, y1⟩
                  · go_wp2_with (first | (go_at_call 15; (with_reducible refine (hupc _).mono ?_); rintro e w' ⟨rfl, rfl⟩))
                    go_big_quiet ((go_at_call 16; exact quiet_same (hfsq _)))
                    have HZ := Lib.hid (HQ.out.drewN nq)
                    clear HQ c0 c1 c2 c3 c4 hfsq hfq hub
                    generalize wq.drewN nq = wz at *
                    obtain ⟨c0, c1, c2, c3, c4⟩ := HZ.out.box
                    obtain ⟨z0, z1, z2, z3, z4⟩ := HZ.out.item HO4.out
                    go_wp2
                    go_big_quiet (fail)
                    go_wp2
                    go_roundw
                    case rel => exact ⟨k + 1, by omega, by go_num, HC.out, (HZ.out.drewN _).2.2⟩
                    case measure => simp [intOf]; omega
                  · rw [hfi] at hfq
                    clear hfi
                    go_wp2_with (first | (go_at_call 15; (with_reducible refine (hupc _).mono ?_); rintro e w' ⟨rfl, rfl⟩) | (go_at_call 16; (with_reducible refine hfq.mono ?_); rintro e w' ⟨rfl, rfl⟩))
                    go_big_quiet ((go_at_call 16; exact quiet_same (hfsq _)))
                    have HZ := Lib.hid (HQ.out.drewN nq)
                    clear HQ c0 c1 c2 c3 c4 hfsq hfq hub y1 hk2
                    generalize wq.drewN nq = wz at *
                    obtain ⟨c0, c1, c2, c3, c4⟩ := HZ.out.box
                    obtain ⟨z0, z1, z2, z3, z4⟩ := HZ.out.item HO4.out
                    go_wp2
                    go_big_quiet (fail)
                    go_wp2
                    go_roundw
                    case rel => exact ⟨k + 1, by omega, by go_num, HC.out, (HZ.out.drewN _).2.2⟩
                    case measure => simp [intOf]; omega
                · have hone : refOne (xs.take k) x = 22 := by rw [HR2.out, if_pos ⟨hse, hbad⟩]
                  have hc := HCH.out
                  rw [hone, if_pos (by decide)] at hc
                  have HC := Lib.hid hc
                  have hw4 : findI (xs.take k) x.same = -1 ∨ ∃ (j4 : Nat) (o4 : It), j4 < n ∧ xs[j4]? = some o4 ∧ findI (xs.take k) x.same = (j4 : Int) ∧ ((o4.kind != 1) || !o4.same.toList.isEmpty || (o4.mode != x.mode) || !x.data.toList.isEmpty) = true := by
                    rcases find_take xs x.same k with ⟨_, hfi⟩ | ⟨j4, o4, hj4, ho4, hf4, hfi4⟩
                    · exact .inl hfi
                    · exact .inr ⟨j4, o4, by omega, ho4, hfi4, by rw [← sameBad_some hf4]; exact hbad⟩
                  clear hone hc hse hbad
                  rcases hw4 with hfi4 | ⟨j4, o4, hj5, ho4, hfi4, hor⟩
                  · rw [hfi4] at hfsq
                    clear hfi4
                    rcases hup3 with hub | ⟨hub, j2, o2, hj3, hfi, hk2, y1⟩
                    · go_wp2_with (first | (go_at_call 15; (with_reducible refine (hupc _).mono ?_); rintro e w' ⟨rfl, rfl⟩))
                      go_big_quiet ((go_at_call 16; exact quiet_same (hfsq _)))
                      have HZ := Lib.hid (HQ.out.drewN nq)
                      clear HQ c0 c1 c2 c3 c4 hfsq hfq hub
                      generalize wq.drewN nq = wz at *
                      obtain ⟨c0, c1, c2, c3, c4⟩ := HZ.out.box
                      go_wp2
                      go_big_quiet (fail)
                      go_wp2
                      go_ret2
                      rw [← HC.out]
                      exact ⟨rfl, (HZ.out.drewN _).2.2⟩
                    · rw [hfi] at hfq
                      clear hfi
                      go_wp2_with (first | (go_at_call 15; (with_reducible refine (hupc _).mono ?_); rintro e w' ⟨rfl, rfl⟩) | (go_at_call 16; (with_reducible refine hfq.mono ?_); rintro e w' ⟨rfl, rfl⟩))
                      go_big_quiet ((go_at_call 16; exact quiet_same (hfsq _)))
                      have HZ := Lib.hid (HQ.out.drewN nq)
                      clear HQ c0 c1 c2 c3 c4 hfsq hfq hub y1 hk2
                      generalize wq.drewN nq = wz at *
                      obtain ⟨c0, c1, c2, c3, c4⟩ := HZ.out.box
                      go_wp2
                      go_big_quiet (fail)
                      go_wp2
                      go_ret2
                      rw [← HC.out]
                      exact ⟨rfl, (HZ.out.drewN _).2.2⟩
                  · rw [hfi4] at hfsq
                    have HO4 := Lib.hid ho4
                    have hj40 : decide ((j4 : Int) < 0) = false := by rw [decide_eq_false_iff_not]; omega
                    clear hfi4 ho4
                    rcases ways4 _ _ _ _ hor with g1 | ⟨g1, g2⟩ | ⟨g1, g2, g3⟩ | ⟨g1, g2, g3, g4⟩
                    all_goals
                      clear hor
                      rcases hup3 with hub | ⟨hub, j2, o2, hj3, hfi, hk2, y1⟩
                      · go_wp2_with (first | (go_at_call 15; (with_reducible refine (hupc _).mono ?_); rintro e w' ⟨rfl, rfl⟩))
                        go_big_quiet ((go_at_call 16; exact quiet_same (hfsq _)))
                        have HZ := Lib.hid (HQ.out.drewN nq)
                        clear HQ c0 c1 c2 c3 c4 hfsq hfq hub
                        generalize wq.drewN nq = wz at *
                        obtain ⟨c0, c1, c2, c3, c4⟩ := HZ.out.box
                        obtain ⟨z0, z1, z2, z3, z4⟩ := HZ.out.item HO4.out
                        go_wp2
                        go_big_quiet (fail)
                        go_wp2
                        go_ret2
                        rw [← HC.out]
                        exact ⟨rfl, (HZ.out.drewN _).2.2⟩
                      · rw [hfi] at hfq
                        clear hfi
                        go_wp2_with (first | (go_at_call 15; (with_reducible refine (hupc _).mono ?_); rintro e w' ⟨rfl, rfl⟩) | (go_at_call 16; (with_reducible refine hfq.mono ?_); rintro e w' ⟨rfl, rfl⟩))
                        go_big_quiet ((go_at_call 16; exact quiet_same (hfsq _)))
                        have HZ := Lib.hid (HQ.out.drewN nq)
                        clear HQ c0 c1 c2 c3 c4 hfsq hfq hub y1 hk2
                        generalize wq.drewN nq = wz at *
                        obtain ⟨c0, c1, c2, c3, c4⟩ := HZ.out.box
                        obtain ⟨z0, z1, z2, z3, z4⟩ := HZ.out.item HO4.out
                        go_wp2
                        go_big_quiet (fail)
                        go_wp2
                        go_ret2
                        rw [← HC.out]
                        exact ⟨rfl, (HZ.out.drewN _).2.2⟩
        · obtain ⟨j, y, hkj, hyj, hl⟩ := hmid.resolve_left (by rintro ⟨_, q⟩; rw [hlate] at q; cases q)
          rw [hlate] at hl
          have hg0 : decide (0 < k) = true := by rw [decide_eq_true_eq]; omega
          obtain ⟨y0, _⟩ := HR.out.item hyj
          have hjn : j < n := by omega
          have hw1 : IntKind.i64.wrap ((k : Int) - 1) = (j : Int) := by rw [IntWalk.i64_in _ (by omega)]; omega
          have hl2 : (Op.bytesLess x.path.toList y.path.toList || x.path.toList == y.path.toList) = true := hl.symm
          have HL := Lib.hid hlate; have HKJ := Lib.hid hkj
          clear hmid hlate hkj hyj hl
          go_wp2
          go_big_quiet (fail)
          go_wp2
          go_ret2
          have hc := HCH.out
          have ho : refOne (xs.take k) x = 13 := by
            unfold refOne; rw [if_neg (by rw [← HE.out]; simp), if_pos HL.out]
          rw [ho, if_pos (by decide)] at hc
          rw [← hc]
          exact ⟨rfl, (HR.out.drewN _).2.2⟩
      · have hne : (E != 0) = true := by rw [bne_iff_ne]; exact he
        have HNE := Lib.hid he
        clear he
        go_wp2_with (go_at_call 14; with_reducible refine hal.mono ?_)
        rintro e w1 ⟨rfl, hb1⟩
        go_wp2
        go_ret2
        have hc := HCH.out
        have ho : refOne (xs.take k) x = E := by unfold refOne; rw [if_pos (by rw [← HE.out]; exact HNE.out), HE.out]
        rw [ho, if_pos HNE.out] at hc
        rw [← hc]
        exact ⟨rfl, (HBW.out.alloc hsw _).trans (hb1.mono (by simp; omega))⟩
    · have hkn : k = n := by omega
      subst hkn
      have hc := hch
      rw [HNN.out, List.drop_length, refFrom] at hc
      have HCH := Lib.hid hc
      clear hch hc
      go_wp2
      go_ret2
      rw [← HCH.out]
      exact ⟨rfl, hbw⟩
end Go.Proofs.YtomckoldfdeidaaGreatDoor

/- the statements' words on trees: Items, Short. -/
namespace Go.Proofs.YtomckoldfdeidaaGreatDoor
open Go.RowKit

theorem infoI : (Tryz.prog.info? 48).map (fun i => (i.zero, i.size, i.bytes)) = some (some (.agg #[.string ⟨#[]⟩, .int .i64 0, .int .i64 0, .string ⟨#[]⟩, .string ⟨#[]⟩]), 5, 64) := by kernel_rfl

theorem itemCells_snoc (xs : List It) (x : It) : itemCells (xs ++ [x]) = itemCells xs ++ x.cells := by simp [itemCells]
theorem row_items {w : World} {B g n cap : Nat} {T : TypeId} {xs : List It} (h : w.ownsRow B T 5 (.slice (some ⟨g, 0, none⟩) n cap) n (itemCells xs)) (hl : xs.length ≤ 9223372036854775807) : ItemsAt w (some ⟨g, 0, none⟩) xs := by
  refine ⟨hl, fun i x hx => ⟨_, rfl, ?_⟩⟩
  have e0 : (⟨g, 0, none⟩ : Addr).add (i * 5) = ⟨g, i * 5, none⟩ := by unfold Addr.add; split <;> simp_all
  rw [e0]
  have c := fun j hj u hu => own_cells h (j := i * 5 + j) (u := u) ((itemCells_get hx j hj).trans hu)
  exact ⟨c 0 (by decide) _ rfl, c 1 (by decide) _ rfl, c 2 (by decide) _ rfl, c 3 (by decide) _ rfl, c 4 (by decide) _ rfl⟩

set_option maxRecDepth 100000 in
set_option maxHeartbeats 3200000 in
theorem made_Items (A : Option Addr) (n c : Nat) (xs : List It) (w : World) (hn : n = xs.length) (hl : n ≤ 1000000) (hx : ItemsAt w A xs) :
    Calls Tryz.prog 6 #[.slice A n c] w fun e w' => ∃ v, e = .returned v ∧ w'.ownsRow w.heap.size 48 5 v xs.length (itemCells xs) ∧ Below w.heap.size w w' := by
  obtain ⟨j0, hj0, hy0, hy1, hy2⟩ := info_parts infoI
  have HX := Lib.hid hx; have HNN := Lib.hid hn
  clear hx hn
  go_enter Tryz.func6, Tryz.ntmps6
  go_wp2
  go_loopw [3, 8] (fun v i wr => ∃ k : Nat, k ≤ n ∧ i = .int .i64 k ∧ wr.ownsRow w.heap.size 48 5 v k (itemCells (xs.take k)) ∧ Below w.heap.size w wr) (fun _ i _ => n - (intOf i).toNat)
  case atStart => exact ⟨0, Nat.zero_le _, rfl, ⟨rfl, .inl ⟨rfl, rfl⟩⟩, Below.refl _ _⟩
  case round =>
    obtain ⟨k, hk, rfl, hown, hbw⟩ := hrel
    have hszw := hbw.size
    by_cases hlt : k < n
    · obtain ⟨x, hxk⟩ : ∃ x, xs[k]? = some x := ⟨_, List.getElem?_eq_getElem (by rw [← HNN.out]; exact hlt)⟩
      obtain ⟨a, rfl, q0, q1, q2, q3, q4⟩ := (HX.out.below (Nat.le_refl _) hbw).2 k x hxk
      have hsn : itemCells (xs.take (k + 1)) = itemCells (xs.take k) ++ x.cells := by rw [List.take_add_one, hxk]; exact itemCells_snoc _ _
      have HS := Lib.hid hsn; have HB := Lib.hid hbw
      clear hsn hbw hxk
      go_wp2_with (at_builtin; refine wpList_append_lies _ rfl _ _ 27 rfl w.heap.size 48 j0 (.agg #[.string ⟨#[]⟩, .int .i64 0, .int .i64 0, .string ⟨#[]⟩, .string ⟨#[]⟩]) 5 64 Tryz.underlying27 hj0 hy0 hy1 hy2 rfl (by decide) _ _ _ rfl ((hown.alloc _).alloc _) ⟨wr.heap.size + 1, 0, none⟩ 1 1 x.cells rfl rfl ?c1 ?c2 (by decide) ?c3 ?c4 ?c5 _ rfl ?_)
      case c1 =>
        intro j u hj
        match j, hj with
        | 0, hj => simp [It.cells] at hj; subst hj; simp [Addr.add]
        | 1, hj => simp [It.cells] at hj; subst hj; simp [Addr.add]
        | 2, hj => simp [It.cells] at hj; subst hj; simp [Addr.add]
        | 3, hj => simp [It.cells] at hj; subst hj; simp [Addr.add]
        | 4, hj => simp [It.cells] at hj; subst hj; simp [Addr.add]
      case c2 => intro u hu; simp [It.cells] at hu; rcases hu with h | h | h | h | h <;> subst h <;> rfl
      case c3 => unfold maxLen; omega
      case c4 => omega
      case c5 => simp; omega
      intro g cap w2 hown2 hgrow hat hlt2
      have hb2 : Below w.heap.size w w2 := (((HB.out).alloc (by omega) _).alloc (by simp; omega) _).grown hgrow (by simp; omega) (fun k hk => (hown.lt k hk).1)
      rw [← HS.out] at hown2
      have HO := Lib.hid hown2; have HB2 := Lib.hid hb2
      clear hown2 hb2 hat hgrow hown
      go_wp2
      go_roundw
      case rel => exact ⟨k + 1, by omega, by go_num, HO.out, HB2.out⟩
      case measure => simp [intOf]; omega
    · have hkn : k = n := by omega
      rw [hkn, HNN.out, List.take_length] at hown
      have HB := Lib.hid hbw
      clear hbw
      go_wp2
      go_ret
      exact ⟨_, rfl, hown, HB.out⟩

def sizeI (x : It) : Nat := x.path.size + x.data.size + x.same.size
def sumI (xs : List It) : Nat := (xs.map sizeI).sum
theorem sumI_snoc (xs : List It) (x : It) : sumI (xs ++ [x]) = sumI xs + sizeI x := by simp [sumI]
/-- Has a tree at most so many items, which are short? -/
def shortB (xs : List It) (items bytes : Nat) : Bool := decide (sumI xs ≤ bytes) && decide (xs.length ≤ items)
theorem sumI_take (xs : List It) (k : Nat) : sumI (xs.take k) ≤ sumI xs := by
  have h : sumI xs = sumI (xs.take k) + sumI (xs.drop k) := by
    conv => lhs; rw [← List.take_append_drop k xs]
    unfold sumI
    rw [List.map_append, List.sum_append]
  omega
theorem sumI_mem {xs : List It} {x : It} (h : x ∈ xs) : sizeI x ≤ sumI xs := by
  induction xs with
  | nil => cases h
  | cons y r ih =>
    rcases List.mem_cons.1 h with rfl | h
    · simp [sumI]
    · have := ih h; simp only [sumI, List.map_cons, List.sum_cons] at *; omega

set_option maxRecDepth 100000 in
set_option maxHeartbeats 3200000 in
theorem made_Short (A : Option Addr) (n c : Nat) (xs : List It) (items bytes : Nat) (w : World) (hn : n = xs.length) (_hi : items ≤ 1000000) (hb : bytes ≤ 1000000000) (hlen : ∀ x ∈ xs, x.path.size ≤ 140737488355328 ∧ x.data.size ≤ 140737488355328 ∧ x.same.size ≤ 140737488355328) (hx : ItemsAt w A xs) :
    Calls Tryz.prog 11 #[.slice A n c, .int .i64 items, .int .i64 bytes] w fun e w' => e = .returned (.bool (shortB xs items bytes)) ∧ Below w.heap.size w w' := by
  have hn63 : (n : Int) ≤ 9223372036854775807 := by have := hx.1; omega
  have HX := Lib.hid hx; have HNN := Lib.hid hn; have HLEN := Lib.hid hlen
  clear hx hn hlen
  obtain ⟨r, hr⟩ : ∃ r, r = shortB xs items bytes := ⟨_, rfl⟩
  rw [← hr]
  have HR := Lib.hid hr
  clear hr
  go_enter Tryz.func11, Tryz.ntmps11
  go_wp2
  go_loopw [7, 12] (fun v i wr => ∃ (k q : Nat), k ≤ n ∧ i = .int .i64 k ∧ v = .int .i64 q ∧ q = sumI (xs.take k) ∧ q ≤ bytes ∧ Below w.heap.size w wr) (fun _ i _ => n - (intOf i).toNat)
  case atStart => exact ⟨0, 0, Nat.zero_le _, rfl, rfl, rfl, Nat.zero_le _, Below.refl _ _⟩
  case round =>
    obtain ⟨k, q, hk, rfl, rfl, hq, hqb, hbw⟩ := hrel
    have hszw := hbw.size
    have HQ := Lib.hid hq
    clear hq
    by_cases hlt : k < n
    · obtain ⟨x, hxk⟩ : ∃ x, xs[k]? = some x := ⟨_, List.getElem?_eq_getElem (by rw [← HNN.out]; exact hlt)⟩
      obtain ⟨l1, l2, l3⟩ := HLEN.out x (List.mem_of_getElem? hxk)
      obtain ⟨a, rfl, q0, q1, q2, q3, q4⟩ := (HX.out.below (Nat.le_refl _) hbw).2 k x hxk
      have hsn : sumI (xs.take (k + 1)) = q + (x.path.size + x.data.size + x.same.size) := by rw [List.take_add_one, hxk, HQ.out]; exact sumI_snoc _ _
      have hle := sumI_take xs (k + 1)
      have HS := Lib.hid hsn; have HB := Lib.hid hbw; have HLE := Lib.hid hle
      clear hsn hbw hxk hle
      by_cases hbig : bytes < q + (x.path.size + x.data.size + x.same.size)
      · have hb1 : (bytes : Int) < (q : Int) + ((x.path.size : Int) + (x.data.size : Int) + (x.same.size : Int)) := by omega
        go_wp2
        go_ret
        refine ⟨ret_bool ?_, HB.out.alloc hszw _⟩
        rw [HR.out]
        unfold shortB
        have : ¬ sumI xs ≤ bytes := by have h1 := HLE.out; rw [HS.out] at h1; omega
        simp [this]
      · have hb1 : (q : Int) + ((x.path.size : Int) + (x.data.size : Int) + (x.same.size : Int)) ≤ (bytes : Int) := by omega
        go_wp2
        go_roundw
        case rel => exact ⟨k + 1, q + (x.path.size + x.data.size + x.same.size), by omega, by go_num, by go_num, HS.out.symm, by omega, HB.out.alloc hszw _⟩
        case measure => simp [intOf]; omega
    · have hkn : k = n := by omega
      have hall : sumI xs ≤ bytes := by
        have := HQ.out
        rw [hkn, HNN.out, List.take_length] at this
        omega
      have hfin : r = decide (n ≤ items) := by rw [HR.out, HNN.out]; unfold shortB; simp [hall]
      have HF := Lib.hid hfin; have HB := Lib.hid hbw
      clear hall hfin hbw
      go_wp2
      go_ret
      exact ⟨ret_bool (by rw [HF.out]), HB.out⟩
end Go.Proofs.YtomckoldfdeidaaGreatDoor

/- the document's example: what the plan of a small tree is. -/
namespace Go.Proofs.YtomckoldfdeidaaGreatDoor
open Go.RowKit

def anchX : It := ⟨⟨#[97]⟩, 1, 0, ⟨#[97, 10, 98]⟩, ⟨#[]⟩⟩
def anchP : List Pt := [⟨0, 1, [97, 10]⟩, ⟨0, 3, [98]⟩]
theorem anch_chk : (chkE [anchX]).1 = 0 := by decide +kernel
theorem anch_own : ownE [anchX] = [0] := by decide +kernel
theorem anch_best1 : bestE [97, 10] [1, 2, 3] = (1, 0) := by decide +kernel
theorem anch_best2 : bestE [98] [1, 2, 3] = (3, 0) := by decide +kernel
theorem anch_first1 : firstN ⟨#[97, 10, 98]⟩ = 2 := by decide +kernel
theorem anch_first2 : firstN ⟨#[98]⟩ = 1 := by decide +kernel
theorem anch_ext1 : (⟨#[97, 10, 98]⟩ : ByteArray).extract 2 (⟨#[97, 10, 98]⟩ : ByteArray).size = ⟨#[98]⟩ := by decide +kernel
theorem anch_ext2 : (⟨#[98]⟩ : ByteArray).extract 1 (⟨#[98]⟩ : ByteArray).size = ⟨#[]⟩ := by decide +kernel
theorem anch_parts : partsFrom [anchX] (wayS []) 0 (ownE [anchX]) = (0, anchP) := by
  have e1 : fileE ((0 : Nat) : Int) [1, 2, 3] ⟨#[97, 10, 98]⟩ = (0, anchP) := by
    have f1 : (⟨#[97, 10, 98]⟩ : ByteArray).data.toList.take 2 = [97, 10] := rfl
    have f2 : (⟨#[98]⟩ : ByteArray).data.toList.take 1 = [98] := rfl
    have t1 : tellL 1 [97, 10] = [97, 10] := by decide +kernel
    have t2 : tellL 3 [98] = [98] := by decide +kernel
    rw [fileE_more _ _ _ (by decide) (by rw [anch_first1, f1, anch_best1]), anch_first1, anch_ext1, f1, anch_best1]
    rw [fileE_more _ _ _ (by decide) (by rw [anch_first2, f2, anch_best2]), anch_first2, anch_ext2, f2, anch_best2]
    rw [fileE_nil _ _ _ (by decide)]
    simp only [t1, t2]
    rfl
  have e0 : datE [anchX] 0 = ⟨#[97, 10, 98]⟩ := rfl
  rw [anch_own]
  simp only [partsFrom, e0, show wayS [] = [1, 2, 3] from rfl, e1]
  rfl
end Go.Proofs.YtomckoldfdeidaaGreatDoor

/- PLAIN WORDS: a float's class, by its word; numbers that are none. -/
namespace Go.Proofs.YtomckoldfdeidaaGreatDoor
open Go

/-- A word that is no number, of whatever bits. -/
def NanW (b : Nat) : Prop := INFW < b % 9223372036854775808
theorem read_nan {b : Nat} (h : NanW b) : ∃ s n, Ieee.double.read b = .nan s n := by
  unfold NanW INFW at h
  unfold Ieee.Format.read
  rw [signW_eq, binade_eq, infRung_eq]
  refine ⟨b / 9223372036854775808 % 2 == 1, b % 9223372036854775808 - INFW, ?_⟩
  dsimp only
  rw [if_neg (by omega), if_neg (by unfold INFW; omega), if_neg (by unfold INFW; omega)]
theorem order_nanl {b : Nat} (h : NanW b) (c : Nat) : FloatKind.f64.format.order b c = none := by
  rw [show FloatKind.f64.format = Ieee.double from rfl]
  unfold Ieee.Format.order
  obtain ⟨s, n, e⟩ := read_nan h
  rw [e]; simp [Ieee.Datum.order]
theorem order_nanr {b : Nat} (h : NanW b) (c : Nat) : FloatKind.f64.format.order c b = none := by
  rw [show FloatKind.f64.format = Ieee.double from rfl]
  unfold Ieee.Format.order
  obtain ⟨s, n, e⟩ := read_nan h
  rw [e]
  cases Ieee.double.read c <;> simp [Ieee.Datum.order]
/-- Not below nought, or no number. -/
def Fw (b : Nat) : Prop := b ≤ INFW ∨ NanW b
def clsW (b : Nat) : Nat := if b = 0 then 3 else if b < INFW then 4 else if b = INFW then 5 else 6
theorem nan_gt {b : Nat} (h : NanW b) : INFW < b := by
  unfold NanW at h
  have := Nat.mod_le b 9223372036854775808
  omega
theorem cls_nan {b : Nat} (h : NanW b) : clsW b = 6 := by
  have := nan_gt h
  unfold clsW INFW at *
  rw [if_neg (by omega), if_neg (by omega), if_neg (by omega)]
/-- Which stands ahead: by classes, then by size. -/
theorem less_key {a b : Nat} (ha : Fw a) (hb : Fw b) :
    (decide (keyN a < keyN b)) = (decide (clsW a < clsW b) || (clsW a == clsW b && (FloatKind.f64.format.order a b == some .lt))) := by
  have hc : ∀ x, x ≤ INFW → (x = 0 ∧ clsW x = 3) ∨ (0 < x ∧ x < INFW ∧ clsW x = 4) ∨ (x = INFW ∧ clsW x = 5) := by
    intro x hx
    unfold clsW
    by_cases h0 : x = 0
    · left; rw [if_pos h0]; exact ⟨h0, rfl⟩
    · by_cases h1 : x < INFW
      · right; left; rw [if_neg h0, if_pos h1]; exact ⟨by omega, h1, rfl⟩
      · right; right; rw [if_neg h0, if_neg h1, if_pos (by omega)]; exact ⟨by omega, rfl⟩
  have hk : ∀ x, x ≤ INFW → keyN x = x := fun x hx => by unfold keyN; rw [if_pos hx]
  have hkn : ∀ x, NanW x → keyN x = INFW + 1 := fun x hx => by have := nan_gt hx; unfold keyN; rw [if_neg (by omega)]
  have hz : (0 : Nat) < INFW := by decide
  rw [Bool.eq_iff_iff]
  simp only [decide_eq_true_eq, Bool.or_eq_true, Bool.and_eq_true, beq_iff_eq]
  rcases ha with ha | ha
  · rcases hb with hb | hb
    · rw [show FloatKind.f64.format = Ieee.double from rfl, order_words ha hb, cmp_nat, hk a ha, hk b hb]
      have h3 : ((some (if a < b then Ordering.lt else if a = b then Ordering.eq else Ordering.gt)) = some Ordering.lt) ↔ a < b := by
        by_cases h : a < b
        · simp [h]
        · simp only [h, if_false, iff_false]
          split <;> simp
      rw [h3]
      rcases hc a ha with h | h | h <;> rcases hc b hb with k | k | k <;> omega
    · rw [order_nanr hb, cls_nan hb, hk a ha, hkn b hb]
      rcases hc a ha with h | h | h <;> simp <;> omega
  · rw [order_nanl ha, cls_nan ha, hkn a ha]
    rcases hb with hb | hb
    · rw [hk b hb]
      rcases hc b hb with h | h | h <;> simp <;> omega
    · rw [hkn b hb, cls_nan hb]; simp
end Go.Proofs.YtomckoldfdeidaaGreatDoor

/- the document's words on costs: class, Less. -/
namespace Go.Proofs.YtomckoldfdeidaaGreatDoor
open Go.RowKit

set_option maxRecDepth 100000 in
set_option maxHeartbeats 1600000 in
theorem ref_class (b : Nat) (hb : Fw b) (w : World) : Calls Tryz.prog 29 #[.float .f64 b] w fun e w' => e = .returned (.int .i64 (clsW b)) ∧ w = w' := by
  rcases hb with hb | hb
  · by_cases h0 : b = 0
    · subst h0
      have o1 : FloatKind.f64.format.order 0 0 = some .eq := by decide
      have hq : floatBits .quo .f64 4607182418800017408 0 = some INFW := by decide
      have o2 : FloatKind.f64.format.order INFW 0 = some .gt := by decide
      have hr := fun (w : World) (t : TypeId) => run_float_arith (P := Tryz.prog) w .quo t .f64 4607182418800017408 0 INFW hq
      clear hq hb
      go_enter Tryz.func29, Tryz.ntmps29
      go_wp2
      go_ret
      exact ⟨rfl, rfl⟩
    · have o1 := order_self hb
      have o2 : FloatKind.f64.format.order b 0 = some .gt := by
        rw [show FloatKind.f64.format = Ieee.double from rfl, order_words hb (by decide), cmp_nat, if_neg (by omega), if_neg h0]
      by_cases h1 : b < INFW
      · have o3 : (FloatKind.f64.format.order b 9218868437227405311 == some .gt) = false := by
          rw [show FloatKind.f64.format = Ieee.double from rfl, order_words hb (by decide), cmp_nat]
          unfold INFW at h1
          split
          · rfl
          · split
            · rfl
            · omega
        have e : clsW b = 4 := by unfold clsW; rw [if_neg h0, if_pos h1]
        have E := Lib.hid e
        clear e h1 h0 hb
        go_enter Tryz.func29, Tryz.ntmps29
        go_wp2
        go_ret
        exact ⟨by rw [E.out]; rfl, rfl⟩
      · have e0 : b = INFW := by omega
        subst e0
        have o3 : FloatKind.f64.format.order INFW 9218868437227405311 = some .gt := by decide
        clear h1 h0 hb
        go_enter Tryz.func29, Tryz.ntmps29
        go_wp2
        go_ret
        exact ⟨rfl, rfl⟩
  · have o1 := order_nanl hb b
    have E := Lib.hid (cls_nan hb)
    clear hb
    go_enter Tryz.func29, Tryz.ntmps29
    go_wp2
    go_ret
    exact ⟨by rw [E.out]; rfl, rfl⟩

set_option maxRecDepth 100000 in
set_option maxHeartbeats 1600000 in
theorem ref_Less (a b : Nat) (ha : Fw a) (hb : Fw b) (w : World) : Calls Tryz.prog 47 #[.float .f64 a, .float .f64 b] w fun e w' => e = .returned (.bool (decide (keyN a < keyN b))) ∧ w = w' := by
  have h1 := ref_class a ha
  have h2 := ref_class b hb
  rw [less_key ha hb]
  obtain ⟨x, hx⟩ : ∃ x, x = clsW a := ⟨_, rfl⟩
  obtain ⟨y, hy⟩ : ∃ y, y = clsW b := ⟨_, rfl⟩
  rw [← hx] at h1 ⊢
  rw [← hy] at h2 ⊢
  clear ha hb hx hy
  rcases Nat.lt_trichotomy x y with h | h | h
  · have e : decide ((x : Int) < (y : Int)) = true := by rw [decide_eq_true_eq]; omega
    have e2 : decide (x < y) = true := by rw [decide_eq_true_eq]; exact h
    have H := Lib.hid h
    clear h
    go_enter Tryz.func47, Tryz.ntmps47
    go_wp2_with (first | (go_at_call 29; (with_reducible refine (h1 _).mono ?_); rintro e w' ⟨rfl, rfl⟩) | (go_at_call 29; (with_reducible refine (h2 _).mono ?_); rintro e w' ⟨rfl, rfl⟩))
    go_ret
    exact ⟨ret_bool (by simp [e2]), rfl⟩
  · subst h
    have e : decide ((x : Int) < (x : Int)) = false := by rw [decide_eq_false_iff_not]; omega
    have e1 : ((x : Int) == (x : Int)) = true := by rw [beq_iff_eq]
    obtain ⟨o, ho⟩ : ∃ o, o = FloatKind.f64.format.order a b := ⟨_, rfl⟩
    rw [← ho]
    have ho2 := ho.symm
    clear ho
    go_enter Tryz.func47, Tryz.ntmps47
    go_wp2_with (first | (go_at_call 29; (with_reducible refine (h1 _).mono ?_); rintro e w' ⟨rfl, rfl⟩) | (go_at_call 29; (with_reducible refine (h2 _).mono ?_); rintro e w' ⟨rfl, rfl⟩))
    go_ret
    exact ⟨ret_bool (by simp), rfl⟩
  · have e : decide ((x : Int) < (y : Int)) = false := by rw [decide_eq_false_iff_not]; omega
    have e1 : ((x : Int) == (y : Int)) = false := by rw [beq_eq_false_iff_ne]; omega
    have e2 : (decide (x < y) || (x == y && (FloatKind.f64.format.order a b == some .lt))) = false := by
      have q1 : decide (x < y) = false := by rw [decide_eq_false_iff_not]; omega
      have q2 : (x == y) = false := by rw [beq_eq_false_iff_ne]; omega
      rw [q1, q2]; rfl
    rw [e2]
    have q1 : decide (x < y) = false := by rw [decide_eq_false_iff_not]; omega
    clear e2 h
    go_enter Tryz.func47, Tryz.ntmps47
    go_wp2_with (first | (go_at_call 29; (with_reducible refine (h1 _).mono ?_); rintro e w' ⟨rfl, rfl⟩) | (go_at_call 29; (with_reducible refine (h2 _).mono ?_); rintro e w' ⟨rfl, rfl⟩))
    go_ret
    exact ⟨rfl, rfl⟩
end Go.Proofs.YtomckoldfdeidaaGreatDoor

/- the document's words on costs: Text. -/
namespace Go.Proofs.YtomckoldfdeidaaGreatDoor
open Go.RowKit

set_option maxRecDepth 100000 in
set_option maxHeartbeats 3200000 in
theorem ref_Text (s : ByteArray) (w : World) (hs : s.size ≤ 1000000000) :
    Calls Tryz.prog 26 #[.string s] w fun e w' => e = .returned (.bool (textB s.data.toList)) ∧ w = w' := by
  go_enter Tryz.func26, Tryz.ntmps26
  go_wp2
  go_loop [3] (fun i => ∃ k : Nat, k ≤ s.size ∧ i = .int .i64 k ∧ (s.data.toList.take k).all okc = true) (fun i => s.size - (intOf i).toNat)
  case atStart => exact ⟨0, Nat.zero_le _, rfl, rfl⟩
  case round =>
    obtain ⟨k, hk, rfl, hall⟩ := hrel
    have HA := Lib.hid hall
    clear hall
    by_cases hlt : k < s.size
    · have hget := Lib.data_getElem? s k hlt
      have HG := Lib.hid hget
      clear hget
      cases hok : okc s[k] with
      | true =>
        have hcs : (((s[k].toNat : Nat) : Int) != 9) = false ∨ ((((s[k].toNat : Nat) : Int) != 9) = true ∧ (((s[k].toNat : Nat) : Int) != 10) = false) ∨
            ((((s[k].toNat : Nat) : Int) != 9) = true ∧ (((s[k].toNat : Nat) : Int) != 10) = true ∧ (32 : Int) ≤ ((s[k].toNat : Nat) : Int) ∧ ((s[k].toNat : Nat) : Int) ≤ 126) := by
          unfold okc at hok
          have h := of_decide_eq_true hok
          by_cases e9 : s[k].toNat = 9
          · left; rw [bne_eq_false_iff_eq]; omega
          · by_cases e10 : s[k].toNat = 10
            · right; left; refine ⟨by rw [bne_iff_ne]; omega, by rw [bne_eq_false_iff_eq]; omega⟩
            · right; right; refine ⟨by rw [bne_iff_ne]; omega, by rw [bne_iff_ne]; omega, by omega, by omega⟩
        have HO := Lib.hid hok; clear hok
        rcases hcs with e9 | ⟨e9, e10⟩ | ⟨e9, e10, e1, e2⟩
        all_goals
          try have d1 : decide (((s[k].toNat : Nat) : Int) < 32) = false := by rw [decide_eq_false_iff_not]; omega
          try have d2 : decide ((126 : Int) < ((s[k].toNat : Nat) : Int)) = false := by rw [decide_eq_false_iff_not]; omega
          go_wp2
          go_round
          case rel => exact ⟨k + 1, by omega, by go_num, by rw [take_succ_all HG.out, HA.out, HO.out]; rfl⟩
          case measure => simp [intOf]; omega
      | false =>
        have hcs : (((s[k].toNat : Nat) : Int) != 9) = true ∧ (((s[k].toNat : Nat) : Int) != 10) = true ∧ (((s[k].toNat : Nat) : Int) < 32 ∨ (32 ≤ ((s[k].toNat : Nat) : Int) ∧ 126 < ((s[k].toNat : Nat) : Int))) := by
          unfold okc at hok
          have := of_decide_eq_false hok
          refine ⟨by rw [bne_iff_ne]; omega, by rw [bne_iff_ne]; omega, by omega⟩
        obtain ⟨h9, h10, h1⟩ := hcs
        have HO := Lib.hid hok; clear hok
        have ht : textB s.data.toList = false := by
          unfold textB
          have hm : s[k] ∈ s.data.toList := List.mem_of_getElem? HG.out
          rw [show s.data.toList.all okc = false from List.all_eq_false.2 ⟨_, hm, by rw [HO.out]; simp⟩]
          rfl
        have HT := Lib.hid ht
        clear ht
        rcases h1 with h1 | ⟨h1, h2⟩
        all_goals
          first
            | have d1 : decide (((s[k].toNat : Nat) : Int) < 32) = true := by rw [decide_eq_true_eq]; omega
            | have d1 : decide (((s[k].toNat : Nat) : Int) < 32) = false := by rw [decide_eq_false_iff_not]; omega
          go_wp2
          go_ret
          exact ⟨ret_bool HT.out.symm, rfl⟩
    · have ha : s.data.toList.all okc = true := by
        have h2 := HA.out
        rw [List.take_of_length_le (by rw [← Lib.size_eq]; omega)] at h2
        exact h2
      by_cases h0 : s.size = 0
      · have hl : s.data.toList = [] := by rw [← List.length_eq_zero_iff, ← Lib.size_eq]; exact h0
        have ht : textB s.data.toList = false := by rw [hl]; rfl
        have HT := Lib.hid ht
        have d0 : decide (0 < s.size) = false := by rw [decide_eq_false_iff_not]; omega
        clear ha hl ht
        go_wp2
        go_ret
        exact ⟨ret_bool HT.out.symm, rfl⟩
      · have d0 : decide (0 < s.size) = true := by rw [decide_eq_true_eq]; omega
        have i0 : (0 : Int) ≤ (s.size : Int) - 1 := by omega
        have i1 : (s.size : Int) - 1 < s.size := by omega
        have i2 : 1 ≤ (s.size : Int) := by omega
        have HAA := Lib.hid ha
        clear ha
        go_wp2
        all_goals
          go_ret
          refine ⟨ret_bool ?_, rfl⟩
          unfold textB
          rw [HAA.out]
          have hlast : s.data.toList.getLast? = some s[s.size - 1] := by
            rw [List.getLast?_eq_getElem?, ← Lib.size_eq, Lib.data_getElem? s (s.size - 1) (by omega)]
          rw [hlast, ← int_beq10]
          simp
end Go.Proofs.YtomckoldfdeidaaGreatDoor

/- the document's words on formats: Escape. -/
namespace Go.Proofs.YtomckoldfdeidaaGreatDoor
open Go.RowKit

theorem escN_take (l : List UInt8) (k : Nat) : (escL (l.take k)).length ≤ 4 * k := by
  rw [escL_len]
  have := (escN_le (l.take k)).2
  have h : (l.take k).length ≤ k := List.length_take_le _ _
  omega
def escR (c : UInt8) : List Value := [.int .u8 92, .int .u8 (48 + (c.toNat : Int) / 64), .int .u8 (48 + (c.toNat : Int) / 8 % 8), .int .u8 (48 + (c.toNat : Int) % 8)]
theorem escR_eq (c : UInt8) (h : plc c = false) : escR c = Lib.byteCells (esc1 c) := by
  have hc := c.toNat_lt
  unfold escR esc1
  rw [h, if_neg (by decide)]
  have a1 : (UInt8.ofNat (48 + c.toNat / 64)).toNat = 48 + c.toNat / 64 := by rw [UInt8.toNat_ofNat']; omega
  have a2 : (UInt8.ofNat (48 + c.toNat / 8 % 8)).toNat = 48 + c.toNat / 8 % 8 := by rw [UInt8.toNat_ofNat']; omega
  have a3 : (UInt8.ofNat (48 + c.toNat % 8)).toNat = 48 + c.toNat % 8 := by rw [UInt8.toNat_ofNat']; omega
  simp only [Lib.byteCells, List.map_cons, List.map_nil, a1, a2, a3]
  have b1 : 48 + (c.toNat : Int) / 64 = ((48 + c.toNat / 64 : Nat) : Int) := by omega
  have b2 : 48 + (c.toNat : Int) / 8 % 8 = ((48 + c.toNat / 8 % 8 : Nat) : Int) := by omega
  have b3 : 48 + (c.toNat : Int) % 8 = ((48 + c.toNat % 8 : Nat) : Int) := by omega
  rw [b1, b2, b3]; rfl

set_option maxRecDepth 100000 in
set_option maxHeartbeats 3200000 in
theorem ref_Escape (s : ByteArray) (w : World) (hs : s.size ≤ 1000000) :
    Calls Tryz.prog 31 #[.string s] w fun e w' => e = .returned (.string ⟨(escL s.data.toList).toArray⟩) ∧ Below w.heap.size w w' := by
  obtain ⟨i0, hi, hz0, hz1, hz2⟩ := info_parts infoByte
  go_enter Tryz.func31, Tryz.ntmps31
  go_wp2
  go_loopw [3, 4] (fun v i wr => ∃ k : Nat, k ≤ s.size ∧ i = .int .i64 k ∧ wr.ownsRow w.heap.size 5 1 v (escL (s.data.toList.take k)).length (Lib.byteCells (escL (s.data.toList.take k))) ∧ Below w.heap.size w wr) (fun _ i _ => s.size - (intOf i).toNat)
  case atStart => exact ⟨0, Nat.zero_le _, rfl, ⟨rfl, .inl ⟨rfl, rfl⟩⟩, Below.refl _ _⟩
  case round =>
    obtain ⟨k, hk, rfl, hown, hbw⟩ := hrel
    have hszw := hbw.size
    have hln := escN_take s.data.toList k
    by_cases hlt : k < s.size
    · have hget := Lib.data_getElem? s k hlt
      have hsn : escL (s.data.toList.take (k + 1)) = escL (s.data.toList.take k) ++ esc1 s[k] := by
        rw [List.take_add_one, hget]; exact escL_snoc _ _
      obtain ⟨p, hp⟩ : ∃ p, p = escL (s.data.toList.take k) := ⟨_, rfl⟩
      rw [← hp] at hsn hown hln
      have HS := Lib.hid hsn; have HB := Lib.hid hbw
      clear hget hsn hbw hp
      have hc256 := s[k].toNat_lt
      cases hok : plc s[k]
      · have hcs : decide (((s[k].toNat : Nat) : Int) < 32) = true ∨ (decide (((s[k].toNat : Nat) : Int) < 32) = false ∧ decide ((126 : Int) < ((s[k].toNat : Nat) : Int)) = true) ∨
            (decide (((s[k].toNat : Nat) : Int) < 32) = false ∧ decide ((126 : Int) < ((s[k].toNat : Nat) : Int)) = false ∧ (((s[k].toNat : Nat) : Int) == 37) = true) ∨
            (decide (((s[k].toNat : Nat) : Int) < 32) = false ∧ decide ((126 : Int) < ((s[k].toNat : Nat) : Int)) = false ∧ (((s[k].toNat : Nat) : Int) == 37) = false ∧ (((s[k].toNat : Nat) : Int) == 92) = true) ∨
            (decide (((s[k].toNat : Nat) : Int) < 32) = false ∧ decide ((126 : Int) < ((s[k].toNat : Nat) : Int)) = false ∧ (((s[k].toNat : Nat) : Int) == 37) = false ∧ (((s[k].toNat : Nat) : Int) == 92) = false ∧ (((s[k].toNat : Nat) : Int) == 39) = true) := by
          unfold plc at hok
          have h := of_decide_eq_false hok
          simp only [decide_eq_true_eq, decide_eq_false_iff_not, beq_iff_eq, beq_eq_false_iff_ne]
          omega
        have HE := Lib.hid (escR_eq _ hok)
        clear hok
        rcases hcs with q1 | ⟨q1, q2⟩ | ⟨q1, q2, q3⟩ | ⟨q1, q2, q3, q4⟩ | ⟨q1, q2, q3, q4, q5⟩
        all_goals
          go_wp2_with (at_builtin; refine wpList_append_lies _ rfl _ _ 91 rfl w.heap.size 5 i0 (.int .u8 0) 1 1 Tryz.underlying91 hi hz0 hz1 hz2 rfl (by decide) _ _ _ rfl (hown.alloc _) ⟨wr.heap.size, 0, none⟩ 4 4 (escR s[k]) rfl rfl ?c1 ?c2 (by decide) ?c3 ?c4 ?c5 _ rfl ?_)
          case c1 =>
            intro j u hj
            unfold escR at hj
            match j, hj with
            | 0, hj => simp at hj; subst hj; simp [Addr.add]
            | 1, hj => simp at hj; subst hj; simp [Addr.add]
            | 2, hj => simp at hj; subst hj; simp [Addr.add]
            | 3, hj => simp at hj; subst hj; simp [Addr.add]
          case c2 => intro u hu; unfold escR at hu; simp at hu; rcases hu with h | h | h | h <;> subst h <;> rfl
          case c3 => unfold maxLen; omega
          case c4 => omega
          case c5 => simp; omega
          intro g cap w2 hown2 hgrow hat hlt2
          have hb2 : Below w.heap.size w w2 := ((HB.out).alloc (by omega) _).grown hgrow (by simp; omega) (fun k hk => (hown.lt k hk).1)
          have hown3 : w2.ownsRow w.heap.size 5 1 (.slice (some ⟨g, 0, none⟩) (p.length + 4) cap) (escL (s.data.toList.take (k + 1))).length (Lib.byteCells (escL (s.data.toList.take (k + 1)))) := by
            rw [HE.out, cells_cat, ← HS.out] at hown2
            have e : (escL (s.data.toList.take (k + 1))).length = p.length + 4 := by
              have := hown2.1; simpa [Lib.byteCells] using this
            rw [e]; exact hown2
          have HO := Lib.hid hown3; have HB2 := Lib.hid hb2
          clear hown2 hown3 hb2 hat hgrow hown
          go_wp2
          go_roundw
          case rel => exact ⟨k + 1, by omega, by go_num, HO.out, HB2.out⟩
          case measure => simp [intOf]; omega
      · have hcs : decide (((s[k].toNat : Nat) : Int) < 32) = false ∧ decide ((126 : Int) < ((s[k].toNat : Nat) : Int)) = false ∧ (((s[k].toNat : Nat) : Int) == 37) = false ∧ (((s[k].toNat : Nat) : Int) == 92) = false ∧ (((s[k].toNat : Nat) : Int) == 39) = false := by
          unfold plc at hok
          have h := of_decide_eq_true hok
          simp only [decide_eq_false_iff_not, beq_eq_false_iff_ne]
          omega
        have HE : Hid (esc1 s[k] = [s[k]]) := by show esc1 s[k] = [s[k]]; unfold esc1; rw [if_pos hok]
        obtain ⟨q1, q2, q3, q4, q5⟩ := hcs
        clear hok
        go_wp2_with (at_builtin; refine wpList_append_lies _ rfl _ _ 91 rfl w.heap.size 5 i0 (.int .u8 0) 1 1 Tryz.underlying91 hi hz0 hz1 hz2 rfl (by decide) _ _ _ rfl (hown.alloc _) ⟨wr.heap.size, 0, none⟩ 1 1 [.int .u8 (s[k].toNat : Nat)] rfl rfl ?c1 ?c2 (by decide) ?c3 ?c4 ?c5 _ rfl ?_)
        case c1 => intro j u hj; match j, hj with | 0, hj => simp at hj; subst hj; simp [Addr.add]
        case c2 => intro u hu; simp at hu; subst hu; rfl
        case c3 => unfold maxLen; omega
        case c4 => omega
        case c5 => simp; omega
        intro g cap w2 hown2 hgrow hat hlt2
        have hb2 : Below w.heap.size w w2 := ((HB.out).alloc (by omega) _).grown hgrow (by simp; omega) (fun k hk => (hown.lt k hk).1)
        have hown3 : w2.ownsRow w.heap.size 5 1 (.slice (some ⟨g, 0, none⟩) (p.length + 1) cap) (escL (s.data.toList.take (k + 1))).length (Lib.byteCells (escL (s.data.toList.take (k + 1)))) := by
          rw [cells_one, cells_cat, ← HE.out, ← HS.out] at hown2
          have e : (escL (s.data.toList.take (k + 1))).length = p.length + 1 := by
            have := hown2.1; simpa [Lib.byteCells] using this
          rw [e]; exact hown2
        have HO := Lib.hid hown3; have HB2 := Lib.hid hb2
        clear hown2 hown3 hb2 hat hgrow hown
        go_wp2
        go_roundw
        case rel => exact ⟨k + 1, by omega, by go_num, HO.out, HB2.out⟩
        case measure => simp [intOf]; omega
    · have hkn : k = s.size := by omega
      rw [hkn, show s.data.toList.take s.size = s.data.toList by rw [Lib.size_eq]; exact List.take_length] at hown
      have hstr := own_str hown
      have HB := Lib.hid hbw
      clear hown hbw hln
      go_wp2
      go_ret
      exact ⟨rfl, HB.out⟩
end Go.Proofs.YtomckoldfdeidaaGreatDoor

/- the document's words on uu: letter, Line. -/
namespace Go.Proofs.YtomckoldfdeidaaGreatDoor
open Go.RowKit

theorem ref_letter (n : Int) (h0 : 0 ≤ n) (h : n < 64) (w : World) : Calls Tryz.prog 82 #[.int .i64 n] w fun e w' => e = .returned (.int .u8 ((letr n.toNat).toNat : Nat)) ∧ w = w' := by
  by_cases hz : n = 0
  · subst hz
    go_enter Tryz.func82, Tryz.ntmps82
    go_wp2
    go_ret
    exact ⟨rfl, rfl⟩
  · have hb : (n == 0) = false := by rw [beq_eq_false_iff_ne]; exact hz
    have e := letr_val n.toNat (by omega) (by omega)
    have e2 : ((letr n.toNat).toNat : Int) = 32 + n := by rw [e]; omega
    have E := Lib.hid e2; clear e e2 hz
    go_enter Tryz.func82, Tryz.ntmps82
    go_wp2
    go_ret
    exact ⟨by rw [E.out]; rfl, rfl⟩

def atB (l : List UInt8) (i : Nat) : UInt8 := l.getD i 0
/-- The first j bytes of three, as a number. -/
def nK (l : List UInt8) (i : Nat) : Nat → Nat
  | 0 => 0
  | j + 1 => 256 * nK l i j + (atB l (i + j)).toNat
theorem nK_lt (l : List UInt8) (i j : Nat) : nK l i j < 256 ^ j := by
  induction j with
  | zero => simp [nK]
  | succ j ih => have := (atB l (i + j)).toNat_lt; rw [nK, Nat.pow_succ]; omega
theorem nK_3 (l : List UInt8) (i : Nat) : nK l i 3 = n3 (atB l i) (atB l (i + 1)) (atB l (i + 2)) := by
  unfold n3; simp only [nK]; simp; omega
/-- One group more. -/
theorem grpL_more (l : List UInt8) (m : Nat) (h : 3 * m < l.length) : grpL (l.take (3 * m + 3)) = grpL (l.take (3 * m)) ++ q4 (n3 (atB l (3 * m)) (atB l (3 * m + 1)) (atB l (3 * m + 2))) := by
  have e : l.take (3 * m + 3) = l.take (3 * m) ++ (l.drop (3 * m)).take 3 := by rw [List.take_add]
  have hl : (l.take (3 * m)).length = 3 * m := by rw [List.length_take]; omega
  rw [e]
  obtain ⟨r, hr⟩ : ∃ r, r = l.drop (3 * m) := ⟨_, rfl⟩
  have g : ∀ j, atB l (3 * m + j) = r.getD j 0 := by
    intro j; unfold atB; rw [hr, List.getD_eq_getElem?_getD, List.getD_eq_getElem?_getD, List.getElem?_drop]
  have g0 : atB l (3 * m) = r.getD 0 0 := g 0
  rw [← hr, g0, g 1, g 2]
  have hrl : 0 < r.length := by rw [hr, List.length_drop]; omega
  match r, hrl with
  | [a], _ =>
    show grpL (l.take (3 * m) ++ [a]) = _
    have := grpL_snoc3 (l.take (3 * m)) m hl a 0 0
    have h1 := grpL_pad2 (l.take (3 * m) ++ [a]) m (by simp [hl])
    have h2 := grpL_pad1 (l.take (3 * m) ++ [a] ++ [0]) m (by simp [hl])
    rw [← h1, ← h2, ← List.getD_cons_zero (x := a) (xs := []) (d := 0)]
    simpa using this
  | [a, b], _ =>
    show grpL (l.take (3 * m) ++ [a, b]) = _
    have := grpL_snoc3 (l.take (3 * m)) m hl a b 0
    have h2 := grpL_pad1 (l.take (3 * m) ++ [a, b]) m (by simp [hl])
    rw [← h2]
    simpa using this
  | a :: b :: c :: r, _ =>
    show grpL (l.take (3 * m) ++ [a, b, c]) = _
    exact grpL_snoc3 (l.take (3 * m)) m hl a b c
theorem q4_cells (N : Nat) : Lib.byteCells (q4 N) = [.int .u8 ((letr (N / 262144)).toNat : Nat), .int .u8 ((letr (N / 4096 % 64)).toNat : Nat), .int .u8 ((letr (N / 64 % 64)).toNat : Nat), .int .u8 ((letr (N % 64)).toNat : Nat)] := rfl

set_option maxRecDepth 100000 in
set_option maxHeartbeats 3200000 in
theorem ref_Line (s : ByteArray) (hs : s.size ≤ 45) (w : World) :
    Calls Tryz.prog 72 #[.string s] w fun e w' => e = .returned (.string ⟨(lineL s.data.toList).toArray⟩) ∧ Below w.heap.size w w' := by
  obtain ⟨i0, hi, hz0, hz1, hz2⟩ := info_parts infoByte
  have hlet := ref_letter s.size (by omega) (by omega)
  rw [Int.toNat_natCast] at hlet
  go_enter Tryz.func72, Tryz.ntmps72
  go_wp2_with (go_at_call 82; (with_reducible refine (hlet _).mono ?_); rintro e w' ⟨rfl, rfl⟩)
  have hlen := Lib.size_eq s
  obtain ⟨l, hl⟩ : ∃ l, l = s.data.toList := ⟨_, rfl⟩
  rw [← hl] at hlen
  have HL := Lib.hid hl; have HLEN := Lib.hid hlen
  have hown0 : (w.alloc (.cells #[.int .u8 ((letr s.size).toNat : Nat)] 5)).ownsRow w.heap.size 5 1 (.slice (some ⟨w.heap.size, 0, none⟩) 1 1) 1 (Lib.byteCells [letr s.size]) :=
    ⟨rfl, .inr ⟨w.heap.size, 1, #[.int .u8 ((letr s.size).toNat : Nat)], rfl, Nat.le_refl _, (MapKept.heap_alloc w _).1, Nat.le_refl _, by decide, rfl, rfl⟩⟩
  have hbel0 : Below w.heap.size w (w.alloc (.cells #[.int .u8 ((letr s.size).toNat : Nat)] 5)) := (Below.refl _ _).alloc (Nat.le_refl _) _
  have HOWN0 := Lib.hid hown0; have HBEL0 := Lib.hid hbel0
  clear hl hlen hlet hown0 hbel0
  go_loopw [3, 4] (fun v i wr => ∃ m : Nat, 3 * m ≤ s.size + 2 ∧ i = .int .i64 ((3 * m : Nat) : Int) ∧ wr.ownsRow w.heap.size 5 1 v (1 + 4 * m) (Lib.byteCells (letr s.size :: grpL (l.take (3 * m)))) ∧ Below w.heap.size w wr) (fun _ i _ => s.size + 3 - (intOf i).toNat)
  case atStart => exact ⟨0, by omega, rfl, HOWN0.out, HBEL0.out⟩
  case round =>
    obtain ⟨m, hm, rfl, hown, hbw⟩ := hrel
    have hszw := hbw.size
    obtain ⟨i, hi3⟩ : ∃ i, i = 3 * m := ⟨_, rfl⟩
    rw [← hi3]
    have HI3 := Lib.hid hi3
    have hi47 : i ≤ 47 := by omega
    by_cases hlt : i < s.size
    · have hmore := grpL_more l m (by rw [← HLEN.out]; omega)
      rw [← nK_3] at hmore
      rw [← hi3] at hmore hown
      obtain ⟨p, hp⟩ : ∃ p, p = letr s.size :: grpL (l.take i) := ⟨_, rfl⟩
      have hmore2 : letr s.size :: grpL (l.take (i + 3)) = p ++ q4 (nK l i 3) := by rw [hp, hmore]; rfl
      rw [← hp] at hown
      have HM := Lib.hid hmore2; have HB := Lib.hid hbw
      clear hi3 hmore hmore2 hp hbw
      have hm15 : m ≤ 15 := by have := HI3.out; omega
      go_wp2
      go_loop [5, 6] (fun nv kv => ∃ j : Nat, j ≤ 3 ∧ kv = .int .i64 j ∧ nv = .int .i64 (nK l i j : Nat)) (fun _ kv => 3 - (intOf kv).toNat)
      case atStart => exact ⟨0, by omega, rfl, rfl⟩
      case round =>
        obtain ⟨j, hj, rfl, rfl⟩ := hrel
        by_cases hj3 : j < 3
        · have hnl : nK l i j < 65536 := by
            have := nK_lt l i j
            rcases (by omega : j = 0 ∨ j = 1 ∨ j = 2) with q | q | q <;> subst q <;> simp at this <;> omega
          have hsc : nK l i (j + 1) = 256 * nK l i j + (atB l (i + j)).toNat := rfl
          have HSC := Lib.hid hsc
          clear hsc
          obtain ⟨N, hN⟩ : ∃ N, N = nK l i j := ⟨_, rfl⟩
          rw [← hN] at hnl HSC ⊢
          clear hN
          by_cases hin : i + j < s.size
          · have hat : (s[i + j].toNat : Int) = ((atB l (i + j)).toNat : Nat) := by
              have := Lib.data_getElem? s (i + j) hin
              unfold atB; rw [HL.out, List.getD_eq_getElem?_getD, this]; rfl
            have hc256 := s[i + j].toNat_lt
            have HAT := Lib.hid hat
            clear hat
            have y0 : (0 : Int) ≤ (i : Int) + (j : Int) := by omega
            have y1 : (i : Int) + (j : Int) < (s.size : Int) := by omega
            have y3 : ((i : Int) + (j : Int)).toNat = i + j := by omega
            go_wp2
            go_round
            case rel => exact ⟨j + 1, by omega, by go_num, by rw [HSC.out, ← Int.toNat_natCast (atB l (i + j)).toNat, ← HAT.out]; go_num⟩
            case measure => simp [intOf]; omega
          · have hat : (atB l (i + j)).toNat = 0 := by
              unfold atB
              rw [List.getD_eq_getElem?_getD, List.getElem?_eq_none (by rw [← HLEN.out]; omega)]; rfl
            have HAT := Lib.hid hat
            have y1 : (s.size : Int) ≤ (i : Int) + (j : Int) := by omega
            clear hat
            go_wp2
            go_round
            case rel => exact ⟨j + 1, by omega, by go_num, by rw [HSC.out, HAT.out]; go_num⟩
            case measure => simp [intOf]; omega
        · have hj4 : j = 3 := by omega
          subst hj4
          have hnl : nK l i 3 < 16777216 := by have := nK_lt l i 3; simpa using this
          obtain ⟨N, hN⟩ : ∃ N, N = nK l i 3 := ⟨_, rfl⟩
          rw [← hN] at hnl HM ⊢
          clear hN
          have d1 := fun w => ref_letter ((N : Int) / 262144) (by omega) (by omega) w
          have d2 := fun w => ref_letter ((N : Int) / 4096 % 64) (by omega) (by omega) w
          have d3 := fun w => ref_letter ((N : Int) / 64 % 64) (by omega) (by omega) w
          have d4 := fun w => ref_letter ((N : Int) % 64) (by omega) (by omega) w
          rw [show ((N : Int) / 262144).toNat = N / 262144 by omega] at d1
          rw [show ((N : Int) / 4096 % 64).toNat = N / 4096 % 64 by omega] at d2
          rw [show ((N : Int) / 64 % 64).toNat = N / 64 % 64 by omega] at d3
          rw [show ((N : Int) % 64).toNat = N % 64 by omega] at d4
          go_wp2_with (first
            | (go_at_call 82; (with_reducible refine (d1 _).mono ?_); rintro e w' ⟨rfl, rfl⟩)
            | (go_at_call 82; (with_reducible refine (d2 _).mono ?_); rintro e w' ⟨rfl, rfl⟩)
            | (go_at_call 82; (with_reducible refine (d3 _).mono ?_); rintro e w' ⟨rfl, rfl⟩)
            | (go_at_call 82; (with_reducible refine (d4 _).mono ?_); rintro e w' ⟨rfl, rfl⟩)
            | (at_builtin; refine wpList_append_lies _ rfl _ _ 91 rfl w.heap.size 5 i0 (.int .u8 0) 1 1 Tryz.underlying91 hi hz0 hz1 hz2 rfl (by decide) _ _ _ rfl (hown.alloc _) ⟨wr.heap.size, 0, none⟩ 4 4 (Lib.byteCells (q4 N)) rfl rfl ?c1 ?c2 (by decide) ?c3 ?c4 ?c5 _ rfl ?_))
          case c1 =>
            intro j u hj
            rw [q4_cells] at hj
            match j, hj with
            | 0, hj => simp at hj; subst hj; simp [Addr.add]
            | 1, hj => simp at hj; subst hj; simp [Addr.add]
            | 2, hj => simp at hj; subst hj; simp [Addr.add]
            | 3, hj => simp at hj; subst hj; simp [Addr.add]
          case c2 => intro u hu; rw [q4_cells] at hu; simp at hu; rcases hu with h | h | h | h <;> subst h <;> rfl
          case c3 => unfold maxLen; omega
          case c4 => omega
          case c5 => simp; omega
          intro g cap w2 hown2 hgrow hat hlt2
          have hb2 : Below w.heap.size w w2 := ((HB.out).alloc (by omega) _).grown hgrow (by simp; omega) (fun k hk => (hown.lt k hk).1)
          rw [cells_cat, ← HM.out] at hown2
          have HO := Lib.hid hown2; have HB2 := Lib.hid hb2
          have hs3 : IntKind.i64.wrap ((i : Int) + 3) = (i : Int) + 3 := IntWalk.i64_in _ (by omega)
          clear hown2 hb2 hat hgrow hown d1 d2 d3 d4
          go_wp2
          go_roundw
          case rel => exact ⟨m + 1, by have := HI3.out; omega, by have := HI3.out; go_num, by have := HI3.out; rw [show 3 * (m + 1) = i + 3 by omega, show 1 + 4 * (m + 1) = 1 + 4 * m + 4 by omega]; exact HO.out, HB2.out⟩
          case measure => simp [intOf]; omega
    · have him : i ≥ s.size := by omega
      rw [← hi3, show l.take i = l from List.take_of_length_le (by rw [← HLEN.out]; omega)] at hown
      have HB := Lib.hid hbw
      clear hbw hi3
      go_wp2_with (at_builtin; refine wpList_append_lies _ rfl _ _ 91 rfl w.heap.size 5 i0 (.int .u8 0) 1 1 Tryz.underlying91 hi hz0 hz1 hz2 rfl (by decide) _ _ _ rfl (hown.alloc _) ⟨wr.heap.size, 0, none⟩ 1 1 [.int .u8 10] rfl rfl ?c1 ?c2 (by decide) ?c3 ?c4 ?c5 _ rfl ?_)
      case c1 => intro j u hj; match j, hj with | 0, hj => simp at hj; subst hj; simp [Addr.add]
      case c2 => intro u hu; simp at hu; subst hu; rfl
      case c3 => unfold maxLen; omega
      case c4 => omega
      case c5 => simp; omega
      intro g cap w2 hown2 hgrow hat hlt2
      have hb2 : Below w.heap.size w w2 := ((HB.out).alloc (by omega) _).grown hgrow (by simp; omega) (fun k hk => (hown.lt k hk).1)
      have hlast : Lib.byteCells (letr s.size :: grpL l) ++ [.int .u8 10] = Lib.byteCells (letr s.size :: grpL l ++ [10]) := by simp [Lib.byteCells]
      rw [hlast] at hown2
      have hstr := own_str hown2
      have HB2 := Lib.hid hb2
      clear hown2 hb2 hat hgrow hown hlast
      go_wp2
      go_ret
      refine ⟨?_, HB2.out⟩
      rw [← HL.out]
      unfold lineL
      rw [← HLEN.out, show s.size % 256 = s.size by omega]
      rfl
end Go.Proofs.YtomckoldfdeidaaGreatDoor

/- the document's words on uu: Rest, newline, digits, Encode. -/
namespace Go.Proofs.YtomckoldfdeidaaGreatDoor
open Go.RowKit

set_option maxRecDepth 100000 in
set_option maxHeartbeats 3200000 in
theorem ref_Rest (s : ByteArray) (hs : s.size ≤ 1000000) (w : World) :
    Calls Tryz.prog 50 #[.string s] w fun e w' => e = .returned (.string ⟨(linesL s.data.toList ++ [96, 10, 101, 110, 100, 10]).toArray⟩) ∧ Below w.heap.size w w' := by
  obtain ⟨l, hl⟩ : ∃ l, l = s.data.toList := ⟨_, rfl⟩
  have hlen : l.length = s.size := by rw [hl, Lib.size_eq]
  have htot : (linesL l).length ≤ 2000100 := by
    have h1 := linesL_len l.length l rfl
    have h2 := encN_le l.length
    omega
  have h0 := fun w => ref_Line ⟨#[]⟩ (by decide) w
  rw [show (⟨(lineL (⟨#[]⟩ : ByteArray).data.toList).toArray⟩ : ByteArray) = ⟨#[96, 10]⟩ from rfl] at h0
  rw [← hl]
  have HL := Lib.hid hl; have HLEN := Lib.hid hlen; have HT := Lib.hid htot
  clear hl hlen htot
  go_enter Tryz.func50, Tryz.ntmps50
  go_wp2
  go_loopw [3, 4] (fun v i wr => ∃ (k : Nat) (p : List UInt8), k ≤ s.size + 44 ∧ i = .int .i64 k ∧ v = .string ⟨p.toArray⟩ ∧ p ++ linesL (l.drop k) = linesL l ∧ Below w.heap.size w wr) (fun _ i _ => s.size + 45 - (intOf i).toNat)
  case atStart => exact ⟨0, [], by omega, rfl, rfl, rfl, Below.refl _ _⟩
  case round =>
    obtain ⟨k, p, hk, rfl, rfl, hcat, hbw⟩ := hrel
    have hszw := hbw.size
    have hpl : p.length ≤ 2000100 := by
      have := congrArg List.length hcat
      have h2 := HT.out
      rw [List.length_append] at this
      omega
    have HC := Lib.hid hcat; have HB := Lib.hid hbw
    clear hcat hbw
    by_cases hlt : k < s.size
    · have hne : l.drop k ≠ [] := by intro q; have := congrArg List.length q; rw [List.length_drop, HLEN.out] at this; simp at this; omega
      have hcons := linesL_cons hne
      rw [List.drop_drop] at hcons
      have hll := lineL_len ((l.drop k).take 45)
      have hl45 : ((l.drop k).take 45).length ≤ 45 := by rw [List.length_take]; omega
      have hlinl : (lineL ((l.drop k).take 45)).length ≤ 100 := by rw [hll]; omega
      obtain ⟨m, hm⟩ : ∃ m, m = min (k + 45) s.size := ⟨_, rfl⟩
      have hline := ref_Line (s.extract k m) (by rw [ByteArray.size_extract]; omega)
      have hex : (s.extract k m).data.toList = (l.drop k).take 45 := by
        rw [Lib.extract_data, ← HL.out, List.take_eq_take_iff, List.length_drop, HLEN.out]; omega
      rw [hex] at hline
      obtain ⟨a, ha⟩ : ∃ a, a = lineL ((l.drop k).take 45) := ⟨_, rfl⟩
      rw [← ha] at hline hcons hlinl
      have hsa : a.length ≤ 100 := hlinl
      have HA := Lib.hid ha; have HCO := Lib.hid hcons
      have hfin : (p ++ a) ++ linesL (l.drop (k + 45)) = linesL l := by rw [List.append_assoc, ← HCO.out]; exact HC.out
      have HF := Lib.hid hfin
      clear hne hcons hll hl45 hlinl hex ha hfin
      by_cases hend : s.size < k + 45
      · have hms : m = s.size := by omega
        subst hms
        clear hm
        have hend2 : (s.size : Int) < (k : Int) + 45 := by omega
        go_wp2_with (go_at_call 72; (with_reducible refine (hline _).mono ?_); rintro e w2 ⟨rfl, hb2⟩)
        go_roundw
        case rel => exact ⟨k + 45, p ++ a, by omega, by go_num, by rw [app_mk], HF.out, HB.out.trans (hb2.mono hszw)⟩
        case measure => simp [intOf]; omega
      · have hms : m = k + 45 := by omega
        subst hms
        clear hm
        have hend2 : ¬ ((s.size : Int) < (k : Int) + 45) := by omega
        have hend3 : decide ((s.size : Int) < (k : Int) + 45) = false := decide_eq_false hend2
        have y3 : ((k : Int) + 45).toNat = k + 45 := by omega
        have y1 : (k : Int) + 45 ≤ s.size := by omega
        go_wp2_with (go_at_call 72; (with_reducible refine (hline _).mono ?_); rintro e w2 ⟨rfl, hb2⟩)
        go_roundw
        case rel => exact ⟨k + 45, p ++ a, by omega, by go_num, by rw [app_mk], HF.out, HB.out.trans (hb2.mono hszw)⟩
        case measure => simp [intOf]; omega
    · have hd : l.drop k = [] := List.drop_eq_nil_of_le (by rw [HLEN.out]; omega)
      have hp : p = linesL l := by
        have := HC.out
        rw [hd, linesL_nil, List.append_nil] at this
        exact this
      have HP := Lib.hid hp
      clear hd hp
      go_wp2_with (go_at_call 72; (with_reducible refine (h0 _).mono ?_); rintro e w2 ⟨rfl, hb2⟩)
      go_ret
      refine ⟨?_, HB.out.trans (hb2.mono hszw)⟩
      rw [← HP.out]
      show Ending.returned (Value.string ((⟨p.toArray⟩ ++ ⟨#[96, 10]⟩) ++ ⟨#[101, 110, 100, 10]⟩)) = _
      rw [show (⟨#[96, 10]⟩ : ByteArray) = ⟨([96, 10] : List UInt8).toArray⟩ from rfl, show (⟨#[101, 110, 100, 10]⟩ : ByteArray) = ⟨([101, 110, 100, 10] : List UInt8).toArray⟩ from rfl, app_mk, app_mk, List.append_assoc]
      rfl

set_option maxRecDepth 100000 in
set_option maxHeartbeats 1600000 in
theorem ref_newline (s : ByteArray) (hs : s.size ≤ 1000000000) (w : World) (hno : s.data.toList.contains 10 = false) :
    Calls Tryz.prog 48 #[.string s] w fun e w' => e = .returned (.bool false) ∧ w = w' := by
  have HN := Lib.hid hno
  clear hno
  go_enter Tryz.func48, Tryz.ntmps48
  go_wp2
  go_loop [3] (fun i => ∃ k : Nat, k ≤ s.size ∧ i = .int .i64 k) (fun i => s.size - (intOf i).toNat)
  case atStart => exact ⟨0, Nat.zero_le _, rfl⟩
  case round =>
    obtain ⟨k, hk, rfl⟩ := hrel
    by_cases hlt : k < s.size
    · have hget := Lib.data_getElem? s k hlt
      have ht : (((s[k].toNat : Nat) : Int) == 10) = false := by
        rw [beq_eq_false_iff_ne]
        intro q
        have e : s[k] = 10 := UInt8.toNat_inj.1 (by show s[k].toNat = 10; omega)
        rw [e] at hget
        have hm := List.mem_of_getElem? hget
        have := HN.out
        rw [List.contains_eq_mem] at this
        simp [hm] at this
      clear hget
      go_wp2
      go_round
      case rel => exact ⟨k + 1, by omega, by go_num⟩
      case measure => simp [intOf]; omega
    · go_wp2
      go_ret
      exact ⟨rfl, rfl⟩

set_option maxRecDepth 100000 in
set_option maxHeartbeats 1600000 in
theorem ref_digits (w : World) : Calls Tryz.prog 49 #[.int .i64 384] w fun e w' => e = .returned (.string ⟨#[54, 48, 48]⟩) ∧ Below w.heap.size w w' := by
  have hown0 : (w.alloc (.cells #[.int .u8 54, .int .u8 48, .int .u8 48] 5)).ownsRow w.heap.size 5 1 (.slice (some ⟨w.heap.size, 0, none⟩) 3 3) 3 (Lib.byteCells [54, 48, 48]) :=
    ⟨rfl, .inr ⟨w.heap.size, 3, #[.int .u8 54, .int .u8 48, .int .u8 48], rfl, Nat.le_refl _, (MapKept.heap_alloc w _).1, Nat.le_refl _, by decide, rfl, rfl⟩⟩
  have hstr := own_str hown0
  clear hown0
  go_enter Tryz.func49, Tryz.ntmps49
  go_wp2
  go_ret
  exact ⟨rfl, (Below.refl _ _).alloc (Nat.le_refl _) _⟩

set_option maxRecDepth 100000 in
set_option maxHeartbeats 3200000 in
theorem ref_Encode (s : ByteArray) (hs : s.size ≤ 1000000) (w : World) :
    Calls Tryz.prog 30 #[.int .i64 384, .string ⟨#[120]⟩, .string s] w fun e w' => e = .returned (.tuple #[.string ⟨(encL s.data.toList).toArray⟩, .int .i64 0]) ∧ Below w.heap.size w w' := by
  have hr := fun w => ref_Right ⟨#[120]⟩ (by decide) w
  have hn := fun w => ref_newline ⟨#[120]⟩ (by decide) w (by decide)
  rw [show rightL (⟨#[120]⟩ : ByteArray).data.toList = true by decide] at hr
  have hd := fun w => ref_digits w
  have hre := fun w => ref_Rest s hs w
  have hsz : (linesL s.data.toList ++ [96, 10, 101, 110, 100, 10]).length ≤ 2000110 := by
    have h1 := linesL_len s.data.toList.length s.data.toList rfl
    have h2 := encN_le s.data.toList.length
    rw [← Lib.size_eq] at h1 h2
    simp; omega
  have henc : encL s.data.toList = [98, 101, 103, 105, 110, 32, 54, 48, 48, 32, 120, 10] ++ (linesL s.data.toList ++ [96, 10, 101, 110, 100, 10]) := by unfold encL; rw [List.append_assoc]
  obtain ⟨q, hq⟩ : ∃ q, q = linesL s.data.toList ++ [96, 10, 101, 110, 100, 10] := ⟨_, rfl⟩
  rw [← hq] at hre hsz henc
  have HE := Lib.hid henc
  clear hq henc
  go_enter Tryz.func30, Tryz.ntmps30
  go_wp2_with (first | (go_at_call 25; (with_reducible refine (hr _).mono ?_); rintro e w' ⟨rfl, rfl⟩) | (go_at_call 48; (with_reducible refine (hn _).mono ?_); rintro e w' ⟨rfl, rfl⟩))
  go_wp2_with (go_at_call 49; (with_reducible refine (hd _).mono ?_); rintro e w1 ⟨rfl, hb1⟩)
  go_wp2_with (go_at_call 50; (with_reducible refine (hre _).mono ?_); rintro e w2 ⟨rfl, hb2⟩)
  go_ret2
  refine ⟨?_, hb1.trans (hb2.mono hb1.size)⟩
  have e : (⟨#[98, 101, 103, 105, 110, 32]⟩ : ByteArray) ++ ⟨#[54, 48, 48]⟩ ++ ⟨#[32]⟩ ++ ⟨#[120]⟩ ++ ⟨#[10]⟩ ++ ⟨q.toArray⟩ = ⟨([98, 101, 103, 105, 110, 32, 54, 48, 48, 32, 120, 10] ++ q).toArray⟩ := by
    apply ByteArray.ext; simp [ByteArray.data_append]
  rw [HE.out, ← e]
  rfl
end Go.Proofs.YtomckoldfdeidaaGreatDoor

/- the document's words on costs: Least. -/
namespace Go.Proofs.YtomckoldfdeidaaGreatDoor
open Go.RowKit

def leK (x y : Nat) : Bool := decide (keyN x ≤ keyN y)
def lstB (ks : List Nat) (x : Nat) : Bool := ks.all (leK x)
theorem amin_find (ks : List Nat) : aminN ks = ks.findIdx (lstB ks) := rfl
theorem leK_not (x y : Nat) : leK x y = !(decide (keyN y < keyN x)) := by
  unfold leK; rw [Bool.eq_iff_iff]; simp
theorem amin_ok {ks : List Nat} (h : ks ≠ []) : ∃ x, ks[aminN ks]? = some x ∧ lstB ks x = true := by
  have hm := amin_is h
  refine ⟨ks[aminN ks]'hm.1, List.getElem?_eq_getElem hm.1, ?_⟩
  unfold lstB
  rw [List.all_eq_true]
  intro y hy
  obtain ⟨j, hj⟩ := List.mem_iff_getElem?.1 hy
  exact decide_eq_true (hm.2.1 j _ y (List.getElem?_eq_getElem hm.1) hj)
theorem amin_at {ks : List Nat} {k x : Nat} (hx : ks[k]? = some x) (h : lstB ks x = true) (hn : (ks.take k).all (fun x => !(lstB ks x)) = true) : aminN ks = k := by
  have hk : k < ks.length := (List.getElem?_eq_some_iff.1 hx).1
  rw [amin_find, List.findIdx_eq hk]
  refine ⟨by rw [(List.getElem?_eq_some_iff.1 hx).2]; exact h, fun j hj => ?_⟩
  have := List.all_eq_true.1 hn ks[j] (List.mem_of_getElem? (by rw [List.getElem?_take, if_pos hj]; exact List.getElem?_eq_getElem (by omega)))
  simpa using this

set_option maxRecDepth 100000 in
set_option maxHeartbeats 3200000 in
theorem ref_Least (ks : List Nat) (n : Nat) (ad : Addr) (c : Nat) (w : World) (hn : n = ks.length) (h0 : 0 < n) (hl : n ≤ 1000000) (hw : ∀ b ∈ ks, Fw b) (hc : ∀ i b, ks[i]? = some b → w.cell? (ad.add i) = some (.float .f64 b)) :
    Calls Tryz.prog 28 #[.slice (some ad) n c] w fun e w' => e = .returned (.int .i64 (aminN ks)) ∧ ∃ q, w' = w.drewN q := by
  have HC := Lib.hid hc; have HW := Lib.hid hw; have HNN := Lib.hid hn
  clear hc hw hn
  go_enter Tryz.func28, Tryz.ntmps28
  go_wp2
  go_loopw [3] (fun i wr => ∃ (k q : Nat), k ≤ n ∧ i = .int .i64 k ∧ (ks.take k).all (fun x => !(lstB ks x)) = true ∧ wr = w.drewN q) (fun i _ => n - (intOf i).toNat)
  case atStart => exact ⟨0, 0, Nat.zero_le _, rfl, rfl, rfl⟩
  case round =>
    obtain ⟨k, q, hk, rfl, hno, hwr⟩ := hrel
    have HNO := Lib.hid hno
    clear hno
    by_cases hlt : k < n
    · obtain ⟨x, hx⟩ : ∃ x, ks[k]? = some x := ⟨_, List.getElem?_eq_getElem (by rw [← HNN.out]; exact hlt)⟩
      have hfx := HW.out x (List.mem_of_getElem? hx)
      have HX := Lib.hid hx; have HWR := Lib.hid hwr
      clear hx hwr
      go_wp2
      go_loopw [4, 5] (fun f j wr => ∃ (m q : Nat) (b : Bool), m ≤ n ∧ j = .int .i64 m ∧ f = .bool b ∧ (ks.take m).all (leK x) = b ∧ wr = w.drewN q) (fun _ j _ => n - (intOf j).toNat)
      case atStart => exact ⟨0, q, true, Nat.zero_le _, rfl, rfl, rfl, HWR.out⟩
      case round =>
        obtain ⟨m, q2, b, hm, rfl, rfl, hb, hwr2⟩ := hrel
        have HB := Lib.hid hb; have HWR2 := Lib.hid hwr2
        clear hb hwr2
        by_cases hlt2 : m < n
        · obtain ⟨y, hy⟩ : ∃ y, ks[m]? = some y := ⟨_, List.getElem?_eq_getElem (by rw [← HNN.out]; exact hlt2)⟩
          have hfy := HW.out y (List.mem_of_getElem? hy)
          have hL := ref_Less y x hfy hfx
          have cx : wr.cell? (ad.add k) = some (.float .f64 x) := by rw [HWR2.out]; exact HC.out k x HX.out
          have cy : wr.cell? (ad.add m) = some (.float .f64 y) := by rw [HWR2.out]; exact HC.out m y hy
          have hsn : (ks.take (m + 1)).all (leK x) = ((ks.take m).all (leK x) && leK x y) := by rw [List.take_add_one, hy]; simp
          have HSN := Lib.hid hsn
          clear hy hsn hfy
          cases hd : decide (keyN y < keyN x)
          all_goals
            rw [hd] at hL
            have HLE := Lib.hid ((leK_not x y).trans (by rw [hd]))
            clear hd
            go_wp2
            go_big_quiet ((go_at_call 47; exact quiet_same (hL _)))
            go_wp2
            go_roundw
            case rel => exact ⟨m + 1, _, _, by omega, by go_num, rfl, by rw [HSN.out, HLE.out, HB.out]; simp, by rw [HWR2.out]; exact World.drewN_drewN _ _ _⟩
            case measure => simp [intOf]; omega
        · have hmn : m = n := by omega
          have hall : lstB ks x = b := by
            unfold lstB
            rw [← HB.out, hmn, HNN.out, List.take_length]
          have HA := Lib.hid hall
          have hsn : (ks.take (k + 1)).all (fun x => !(lstB ks x)) = ((ks.take k).all (fun x => !(lstB ks x)) && !(lstB ks x)) := by rw [List.take_add_one, HX.out]; simp
          have HSN := Lib.hid hsn
          clear hall hsn
          cases b
          · go_wp2
            go_roundw
            case rel => exact ⟨k + 1, q2, by omega, by go_num, by rw [HSN.out, HNO.out, HA.out]; rfl, HWR2.out⟩
            case measure => simp [intOf]; omega
          · go_wp2
            go_ret
            exact ⟨ret_int (by rw [amin_at HX.out HA.out HNO.out]), q2, HWR2.out⟩
    · exfalso
      have hkn : k = n := by omega
      have hne : ks ≠ [] := by intro e; have := HNN.out; rw [e] at this; simp at this; omega
      obtain ⟨x, h1, h2⟩ := amin_ok hne
      have := HNO.out
      rw [hkn, HNN.out, List.take_length] at this
      have := List.all_eq_true.1 this x (List.mem_of_getElem? h1)
      rw [h2] at this; cases this
end Go.Proofs.YtomckoldfdeidaaGreatDoor

/- the document's words on costs: Bytes, Share, Cost, Best. -/
namespace Go.Proofs.YtomckoldfdeidaaGreatDoor
open Go.RowKit

/-- How many bytes a way takes; -1: it can't; -2: there is no such way. -/
def byteI (way : Int) (l : List UInt8) : Int :=
  if way = 1 then (if textB l then (l.length : Int) else -1)
  else if way = 2 then (encN l.length : Nat)
  else if way = 3 then (if l.length ≤ 256 then (escN l : Nat) else -1)
  else -2

theorem rest_len (l : List UInt8) : (⟨(linesL l ++ [96, 10, 101, 110, 100, 10]).toArray⟩ : ByteArray).size = encN l.length := by
  have := linesL_len l.length l rfl
  show (linesL l ++ [96, 10, 101, 110, 100, 10]).toArray.size = _
  simp; omega

set_option maxRecDepth 100000 in
set_option maxHeartbeats 1600000 in
theorem ref_Bytes (way : Int) (s : ByteArray) (w : World) (hs : s.size ≤ 1000000) :
    Calls Tryz.prog 45 #[.int .i64 way, .string s] w fun e w' => e = .returned (.int .i64 (byteI way s.data.toList)) ∧ Below w.heap.size w w' := by
  have hT := fun w => ref_Text s w (by omega)
  have hR := fun w => ref_Rest s hs w
  have hE := fun w => ref_Escape s w hs
  have hlen := Lib.size_eq s
  by_cases e1 : way = 1
  · subst e1
    cases ht : textB s.data.toList with
    | true =>
      have e : byteI 1 s.data.toList = (s.size : Int) := by unfold byteI; rw [if_pos rfl, if_pos ht, ← hlen]
      rw [e]; rw [ht] at hT
      clear e ht hlen hR hE
      go_enter Tryz.func45, Tryz.ntmps45
      go_wp2_with (go_at_call 26; (with_reducible refine (hT _).mono ?_); rintro e w' ⟨rfl, rfl⟩)
      go_ret
      exact ⟨rfl, Below.refl _ _⟩
    | false =>
      have e : byteI 1 s.data.toList = -1 := by unfold byteI; rw [if_pos rfl, if_neg (by rw [ht]; simp)]
      rw [e]; rw [ht] at hT
      clear e ht hlen hR hE
      go_enter Tryz.func45, Tryz.ntmps45
      go_wp2_with (go_at_call 26; (with_reducible refine (hT _).mono ?_); rintro e w' ⟨rfl, rfl⟩)
      go_ret
      exact ⟨rfl, Below.refl _ _⟩
  have b1 : (way == 1) = false := by rw [beq_eq_false_iff_ne]; exact e1
  by_cases e2 : way = 2
  · subst e2
    have hz : (linesL s.data.toList ++ [96, 10, 101, 110, 100, 10]).length = encN s.size := by rw [hlen]; exact rest_len _
    have e : byteI 2 s.data.toList = (encN s.size : Nat) := by unfold byteI; rw [if_neg (by decide), if_pos rfl, ← hlen]
    rw [e]
    obtain ⟨q, hq⟩ : ∃ q, q = linesL s.data.toList ++ [96, 10, 101, 110, 100, 10] := ⟨_, rfl⟩
    rw [← hq] at hR hz
    have HZ := Lib.hid hz
    clear e hlen hT hE hq hz b1 e1
    go_enter Tryz.func45, Tryz.ntmps45
    go_wp2_with (go_at_call 50; (with_reducible refine (hR _).mono ?_); rintro e w2 ⟨rfl, hb2⟩)
    go_ret
    refine ⟨?_, hb2⟩
    rw [← HZ.out]
    rfl
  have b2 : (way == 2) = false := by rw [beq_eq_false_iff_ne]; exact e2
  by_cases e3 : way = 3
  · subst e3
    by_cases h256 : s.size ≤ 256
    · have hz : (escL s.data.toList).length = escN s.data.toList := escL_len _
      have e : byteI 3 s.data.toList = (escN s.data.toList : Nat) := by unfold byteI; rw [if_neg (by decide), if_neg (by decide), if_pos rfl, if_pos (by rw [← hlen]; exact h256)]
      rw [e]
      obtain ⟨q, hq⟩ : ∃ q, q = escL s.data.toList := ⟨_, rfl⟩
      rw [← hq] at hE hz
      have HZ := Lib.hid hz
      have d1 : decide ((s.size : Int) ≤ 256) = true := by rw [decide_eq_true_eq]; omega
      clear e hlen hT hR hq hz b1 b2 e1 e2
      go_enter Tryz.func45, Tryz.ntmps45
      go_wp2_with (go_at_call 31; (with_reducible refine (hE _).mono ?_); rintro e w2 ⟨rfl, hb2⟩)
      go_ret
      refine ⟨?_, hb2⟩
      rw [← HZ.out]
      rfl
    · have e : byteI 3 s.data.toList = -1 := by unfold byteI; rw [if_neg (by decide), if_neg (by decide), if_pos rfl, if_neg (by rw [← hlen]; exact h256)]
      rw [e]
      have d1 : decide ((s.size : Int) ≤ 256) = false := by rw [decide_eq_false_iff_not]; omega
      clear e hlen hT hR hE b1 b2 e1 e2
      go_enter Tryz.func45, Tryz.ntmps45
      go_wp2
      go_ret
      exact ⟨rfl, Below.refl _ _⟩
  have b3 : (way == 3) = false := by rw [beq_eq_false_iff_ne]; exact e3
  have e : byteI way s.data.toList = -2 := by unfold byteI; rw [if_neg e1, if_neg e2, if_neg e3]
  rw [e]
  clear e hlen hT hR hE e1 e2 e3
  go_enter Tryz.func45, Tryz.ntmps45
  go_wp2
  go_ret
  exact ⟨rfl, Below.refl _ _⟩

theorem ref_Share (n d : Nat) (hn : n < 9007199254740992) (h1 : 1 ≤ d) (h2 : d < 9007199254740992) (w : World) :
    Calls Tryz.prog 46 #[.int .i64 n, .int .i64 d] w fun e w' => e = .returned (.float .f64 (shareW n d)) ∧ w = w' := by
  have h := (share_word n d hn h1 h2).1
  have hr := fun (w : World) (t : TypeId) => run_float_arith (P := Tryz.prog) w .quo t .f64 (floatOfInt .f64 n) (floatOfInt .f64 d) (shareW n d) h
  clear h
  go_enter Tryz.func46, Tryz.ntmps46
  go_wp2
  go_ret
  exact ⟨rfl, rfl⟩

/-- What the document's cost is: the program's, or some word that is no number where hers is none. -/
def CostR (way : Int) (l : List UInt8) (b : Nat) : Prop := Fw b ∧ keyN b = keyN (costW way l)

def nanOf (t : Nat) : Nat := (t % 2) * 2 ^ 63 + 0x7ff0000000000000 + 1 + (t / 2) % (2 ^ 52 - 1)
theorem nanOf_nan (t : Nat) : NanW (nanOf t) := by
  unfold nanOf NanW INFW
  have h1 : (t / 2) % (2 ^ 52 - 1) < 2 ^ 52 - 1 := Nat.mod_lt _ (by decide)
  have h2 : t % 2 < 2 := Nat.mod_lt _ (by decide)
  have e1 : (2 : Nat) ^ 63 = 9223372036854775808 := by decide
  have e2 : (2 : Nat) ^ 52 = 4503599627370496 := by decide
  rw [e1]; rw [e2] at *
  generalize t / 2 % (4503599627370496 - 1) = r at *
  generalize t % 2 = q at *
  omega
def nanW (w : World) : Nat := nanOf (w.tape w.drawn (.nanBits .f64 0 0))
theorem run_nan (w : World) (t : TypeId) : (binOp .quo t (.float .f64 0) (.float .f64 0)).run Tryz.prog w = .ok (.float .f64 (nanW w)) w.drew := by
  have hd : FloatKind.f64.format.div 0 0 = none := by decide
  simp [binOp, Op.floatArith, hd, Question.forced, Question.cut, nanW, nanOf]

theorem key_nan {b : Nat} (h : NanW b) : keyN b = INFW + 1 := by have := nan_gt h; unfold keyN; rw [if_neg (by omega)]
theorem byteI_cases (way : Int) (l : List UInt8) : (byteI way l = -2 ∧ costW way l = NANW) ∨ (byteI way l = -1 ∧ costW way l = INFW) ∨
    ∃ m : Nat, byteI way l = (m : Int) ∧ m ≤ 4 * l.length + 70 ∧ costW way l = shareW m l.length := by
  unfold byteI costW
  by_cases e1 : way = 1
  · rw [if_pos e1, if_pos e1]
    split
    · exact .inr (.inr ⟨l.length, rfl, by omega, rfl⟩)
    · exact .inr (.inl ⟨rfl, rfl⟩)
  rw [if_neg e1, if_neg e1]
  by_cases e2 : way = 2
  · rw [if_pos e2, if_pos e2]
    exact .inr (.inr ⟨encN l.length, rfl, by have := encN_le l.length; omega, rfl⟩)
  rw [if_neg e2, if_neg e2]
  by_cases e3 : way = 3
  · rw [if_pos e3, if_pos e3]
    split
    · exact .inr (.inr ⟨escN l, rfl, by have := (escN_le l).2; omega, rfl⟩)
    · exact .inr (.inl ⟨rfl, rfl⟩)
  rw [if_neg e3, if_neg e3]
  exact .inl ⟨rfl, rfl⟩

set_option maxRecDepth 100000 in
set_option maxHeartbeats 1600000 in
theorem ref_Cost (way : Int) (s : ByteArray) (w : World) (h1 : 1 ≤ s.size) (hs : s.size ≤ 1000000) :
    Calls Tryz.prog 27 #[.int .i64 way, .string s] w fun e w' => ∃ b, e = .returned (.float .f64 b) ∧ CostR way s.data.toList b ∧ Below w.heap.size w w' := by
  have hB := fun w => ref_Bytes way s w hs
  have hlen := Lib.size_eq s
  rcases byteI_cases way s.data.toList with ⟨e1, e2⟩ | ⟨e1, e2⟩ | ⟨m, e1, hm, e2⟩
  · rw [e1] at hB
    have hq := run_nan
    have E := Lib.hid e2
    clear e1 e2 hlen
    go_enter Tryz.func27, Tryz.ntmps27
    go_wp2_with (go_at_call 45; (with_reducible refine (hB _).mono ?_); rintro e w2 ⟨rfl, hb2⟩)
    go_ret
    have hn := nanOf_nan (w2.tape w2.drawn (.nanBits .f64 0 0))
    exact ⟨nanW w2, rfl, ⟨.inr hn, by rw [E.out]; exact (key_nan hn).trans (by decide)⟩, hb2.drew⟩
  · rw [e1] at hB
    have hq : floatBits .quo .f64 4607182418800017408 0 = some INFW := by decide
    have hr := fun (w : World) (t : TypeId) => run_float_arith (P := Tryz.prog) w .quo t .f64 4607182418800017408 0 INFW hq
    have E := Lib.hid e2
    clear e1 e2 hlen hq
    go_enter Tryz.func27, Tryz.ntmps27
    go_wp2_with (go_at_call 45; (with_reducible refine (hB _).mono ?_); rintro e w2 ⟨rfl, hb2⟩)
    go_ret
    exact ⟨INFW, rfl, ⟨.inl (Nat.le_refl _), by rw [E.out]⟩, hb2⟩
  · rw [e1] at hB
    have hS := ref_Share m s.size (by omega) h1 (by omega)
    have hw := (share_word m s.size (by omega) h1 (by omega)).2
    rw [← hlen] at e2
    have E := Lib.hid e2; have HW := Lib.hid hw
    have n2 : ((m : Int) == -2) = false := by rw [beq_eq_false_iff_ne]; omega
    have n1 : ((m : Int) == -1) = false := by rw [beq_eq_false_iff_ne]; omega
    clear e1 e2 hlen hw
    go_enter Tryz.func27, Tryz.ntmps27
    go_wp2_with (first | (go_at_call 45; (with_reducible refine (hB _).mono ?_); rintro e w2 ⟨rfl, hb2⟩) | (go_at_call 46; (with_reducible refine (hS _).mono ?_); rintro e w' ⟨rfl, rfl⟩))
    go_ret
    exact ⟨shareW m s.size, rfl, ⟨.inl HW.out, by rw [E.out]⟩, by assumption⟩

theorem amin_map (ks : List Nat) : aminN ks = (ks.map keyN).findIdx (fun x => (ks.map keyN).all (fun y => decide (x ≤ y))) := by
  rw [List.findIdx_map]
  unfold aminN
  congr 1
  funext x
  simp [List.all_map, Function.comp_def]
theorem cls_big {b : Nat} (h : Fw b) : decide (5 ≤ clsW b) = decide (INFW ≤ keyN b) := by
  rw [decide_eq_decide]
  rcases h with h | h
  · unfold keyN clsW; rw [if_pos h]
    unfold INFW at *
    split
    · omega
    · split
      · omega
      · split <;> omega
  · rw [cls_nan h, key_nan h]; omega
theorem key_big (b : Nat) : INFW ≤ keyN b ↔ INFW ≤ b := by unfold keyN; split <;> omega

/-- The costs of some ways, as the document has them. -/
def CostsR (l : List UInt8) (ws : List Int) (bs : List Nat) : Prop := bs.length = ws.length ∧ bs.map keyN = (costs l ws).map keyN ∧ ∀ b ∈ bs, Fw b
theorem CostsR.snoc {l : List UInt8} {ws : List Int} {bs : List Nat} (h : CostsR l ws bs) {y : Int} {b : Nat} (hb : CostR y l b) : CostsR l (ws ++ [y]) (bs ++ [b]) := by
  refine ⟨by simp [h.1], ?_, ?_⟩
  · have := h.2.1; unfold costs at *; simp [this, hb.2]
  · intro x hx
    rcases List.mem_append.1 hx with hx | hx
    · exact h.2.2 x hx
    · simp at hx; subst hx; exact hb.1

set_option maxRecDepth 100000 in
set_option maxHeartbeats 3200000 in
theorem ref_Best (s : ByteArray) (ways : List Int) (n : Nat) (A : Option Addr) (c : Nat) (w : World) (hn : n = ways.length) (h0 : 0 < n) (hl : n ≤ 1000000) (h1 : 1 ≤ s.size) (hs : s.size ≤ 1000000) (hc : IntsAt w A ways) :
    Calls Tryz.prog 18 #[.string s, .slice A n c] w fun e w' => e = .returned (.tuple #[.int .i64 (bestE s.data.toList ways).1, .int .i64 (bestE s.data.toList ways).2]) ∧ Below w.heap.size w w' := by
  obtain ⟨i0, hi, hz0, hz1, hz2⟩ := info_parts infoFloat
  have hne : (!s.toList.isEmpty) = true := by
    rw [Lib.toList_data]; apply ne_isEmpty; intro q; have := Lib.size_eq s; rw [q, List.length_nil] at this; omega
  have hz : ((n : Int) == 0) = false := by rw [beq_eq_false_iff_ne]; omega
  have HC := Lib.hid hc; have HNN := Lib.hid hn
  clear hc hn
  go_enter Tryz.func18, Tryz.ntmps18
  go_wp2
  go_loopw [6, 7] (fun v i wr => ∃ (k : Nat) (bs : List Nat), k ≤ n ∧ i = .int .i64 k ∧ CostsR s.data.toList (ways.take k) bs ∧ wr.ownsRow w.heap.size 71 1 v k (bs.map (Value.float .f64)) ∧ Below w.heap.size w wr) (fun _ i _ => n - (intOf i).toNat)
  case atStart => exact ⟨0, [], Nat.zero_le _, rfl, ⟨rfl, rfl, fun b hb => by cases hb⟩, ⟨rfl, .inl ⟨rfl, rfl⟩⟩, Below.refl _ _⟩
  case round =>
    obtain ⟨k, bs, hk, rfl, hcr, hown, hbw⟩ := hrel
    have hszw := hbw.size
    have HCR := Lib.hid hcr
    clear hcr
    by_cases hlt : k < n
    · obtain ⟨y, hy⟩ : ∃ y, ways[k]? = some y := ⟨_, List.getElem?_eq_getElem (by rw [← HNN.out]; exact hlt)⟩
      obtain ⟨a, rfl, hcy⟩ := (HC.out.below (Nat.le_refl _) hbw) k y hy
      have hcost := ref_Cost y s wr h1 hs
      have hsn : ways.take (k + 1) = ways.take k ++ [y] := by rw [List.take_add_one, hy]; rfl
      have HS := Lib.hid hsn; have HB := Lib.hid hbw
      clear hsn hy hbw
      go_wp2_with (go_at_call 27; with_reducible refine hcost.mono ?_)
      rintro e w1 ⟨q, rfl, hcq, hb1⟩
      have HCQ := Lib.hid hcq
      clear hcq
      have hown1 := own_below hown hb1
      have hzb := hb1.size
      go_wp2_with (at_builtin; refine wpList_append_lies _ rfl _ _ 70 rfl w.heap.size 71 i0 (.float .f64 0) 1 8 Tryz.underlying70 hi hz0 hz1 hz2 rfl (by decide) _ _ _ rfl (hown1.alloc _) ⟨w1.heap.size, 0, none⟩ 1 1 [.float .f64 q] rfl rfl ?c1 ?c2 (by decide) ?c3 ?c4 ?c5 _ rfl ?_)
      case c1 => intro j u hj; match j, hj with | 0, hj => simp at hj; subst hj; simp [Addr.add]
      case c2 => intro u hu; simp at hu; subst hu; rfl
      case c3 => unfold maxLen; omega
      case c4 => omega
      case c5 => simp; omega
      intro g cap w2 hown2 hgrow hat hlt2
      have hb2 : Below w.heap.size w w2 := ((HB.out.trans (hb1.mono hszw)).alloc (by omega) _).grown hgrow (by simp; omega) (fun k hk => (hown1.lt k hk).1)
      rw [show bs.map (Value.float .f64) ++ [.float .f64 q] = (bs ++ [q]).map (Value.float .f64) by simp] at hown2
      have HO := Lib.hid hown2; have HB2 := Lib.hid hb2
      clear hown2 hb2 hat hgrow hown hown1 hb1
      go_wp2
      go_roundw
      case rel => exact ⟨k + 1, bs ++ [q], by omega, by go_num, by rw [HS.out]; exact HCR.out.snoc HCQ.out, HO.out, HB2.out⟩
      case measure => simp [intOf]; omega
    · have hkn : k = n := by omega
      have hcr : CostsR s.data.toList ways bs := by have := HCR.out; rwa [hkn, HNN.out, List.take_length] at this
      rw [hkn] at hown
      have hbl : bs.length = n := by rw [hcr.1, HNN.out]
      obtain ⟨g, cap, cur, rfl, _⟩ := hown.2.resolve_left (by rintro ⟨_, b⟩; omega)
      have hcells : ∀ i b, bs[i]? = some b → wr.cell? ((⟨g, 0, none⟩ : Addr).add i) = some (.float .f64 b) := by
        intro i b hb
        exact hown.cells (g := g) rfl i _ (by rw [List.getElem?_map, hb]; rfl)
      have hleast := ref_Least bs n ⟨g, 0, none⟩ cap wr hbl.symm h0 hl hcr.2.2 hcells
      have hane : bs ≠ [] := by intro q; rw [q] at hbl; simp at hbl; omega
      have hmlt := (amin_is hane).1
      have hmm : aminN bs = aminN (costs s.data.toList ways) := by rw [amin_map, amin_map, hcr.2.1]
      obtain ⟨m, hm⟩ : ∃ m, m = aminN bs := ⟨_, rfl⟩
      rw [← hm] at hleast hmlt hmm
      rw [hbl] at hmlt
      obtain ⟨q, hq⟩ : ∃ q, bs[m]? = some q := ⟨_, List.getElem?_eq_getElem (by omega)⟩
      obtain ⟨y, hy⟩ : ∃ y, ways[m]? = some y := ⟨_, List.getElem?_eq_getElem (by rw [← HNN.out]; omega)⟩
      have hfq := hcr.2.2 q (List.mem_of_getElem? hq)
      have hkey : keyN q = keyN (costW y s.data.toList) := by
        have h3 : (bs.map keyN)[m]? = some (keyN q) := by rw [List.getElem?_map, hq]; rfl
        rw [hcr.2.1] at h3
        unfold costs at h3
        simp [hy] at h3
        exact h3.symm
      have ebest : bestE s.data.toList ways = if 5 ≤ clsW q then (0, 43) else (y, 0) := by
        unfold bestE
        have hwn : ways ≠ [] := by intro e; have := HNN.out; rw [e] at this; simp at this; omega
        rw [if_neg hwn]
        change (if INFW ≤ (costs s.data.toList ways).getD (aminN (costs s.data.toList ways)) 0 then ((0 : Int), (43 : Int)) else (ways.getD (aminN (costs s.data.toList ways)) 0, 0)) = _
        have hcm : (costs s.data.toList ways).getD m 0 = costW y s.data.toList := by unfold costs; rw [List.getD_eq_getElem?_getD, List.getElem?_map, hy]; rfl
        rw [← hmm, hcm, List.getD_eq_getElem?_getD, hy]
        have h5 : INFW ≤ costW y s.data.toList ↔ 5 ≤ clsW q := by
          rw [← key_big, ← hkey]
          have := cls_big hfq
          rw [decide_eq_decide] at this
          exact this.symm
        by_cases h6 : 5 ≤ clsW q
        · rw [if_pos h6, if_pos (h5.2 h6)]
        · rw [if_neg h6, if_neg (fun e => h6 (h5.1 e))]; rfl
      have hcq : wr.cell? ⟨g, m, none⟩ = some (.float .f64 q) := own_cells hown (by rw [List.getElem?_map, hq]; rfl)
      obtain ⟨a, rfl, hcy⟩ := (HC.out.below (Nat.le_refl _) hbw) m y hy
      have hcls := ref_class q hfq
      have EB := Lib.hid ebest; have HB := Lib.hid hbw
      clear hcells hm hq hy hown hbl ebest hbw hfq hkey hmm hane hcr
      obtain ⟨cq, hcqe⟩ : ∃ cq, cq = clsW q := ⟨_, rfl⟩
      rw [← hcqe] at hcls EB
      have hc6 : cq ≤ 6 := by rw [hcqe]; unfold clsW; split <;> (try split) <;> (try split) <;> omega
      clear hcqe
      have hcls2 := hcls
      by_cases hbig : 5 ≤ cq
      · have e1 : bestE s.data.toList ways = (0, 43) := by rw [EB.out, if_pos hbig]
        have E1 := Lib.hid e1
        have d1 : decide ((5 : Int) ≤ (cq : Int)) = true := by rw [decide_eq_true_eq]; omega
        clear e1
        go_wp2_with (first | (go_at_call 28; (with_reducible refine hleast.mono ?_); rintro e w' ⟨rfl, q9, rfl⟩) | (go_at_call 29; (with_reducible refine (hcls _).mono ?_); rintro e w' ⟨rfl, rfl⟩))
        go_ret2
        rw [E1.out]
        exact ⟨rfl, belowN HB.out _⟩
      · have e1 : bestE s.data.toList ways = (y, 0) := by rw [EB.out, if_neg hbig]
        have E1 := Lib.hid e1
        have d1 : decide ((5 : Int) ≤ (cq : Int)) = false := by rw [decide_eq_false_iff_not]; omega
        clear e1
        go_wp2_with (first | (go_at_call 28; (with_reducible refine hleast.mono ?_); rintro e w' ⟨rfl, q9, rfl⟩) | (go_at_call 29; (with_reducible refine (hcls _).mono ?_); rintro e w' ⟨rfl, rfl⟩))
        go_ret2
        rw [E1.out]
        exact ⟨rfl, belowN HB.out _⟩
end Go.Proofs.YtomckoldfdeidaaGreatDoor
