/- PlanMakes: for any tree and ways, Make returns the document's parts, or its error: the statement answers true at every input. -/
import Derived.Test.YtomckoldfdeidaaGreatDoorZ3
import Derived.Deep.Slices
import Derived.Deep.Fields
import Derived.ChangeSame
import Derived.ChangeSlices
import Derived.SizedLaws
import Derived.HandedShaped
import Derived.Shelf.Vars
import Derived.ProofKit
import Derived.Test.YtomckoldfdeidaaGreatDoorRows
import Derived.Test.YtomckoldfdeidaaGreatDoorCards
import Derived.Test.YtomckoldfdeidaaGreatDoorTie
import Derived.Lay
import Derived.Carry
import Derived.SevenTiedAt

/- the document's words on plans: next, Tell, Own. -/
namespace Go.Proofs.YtomckoldfdeidaaGreatDoor
open Go.RowKit

theorem get_b (t : ByteArray) {j : Nat} (hj : j < t.size) : t.data.toList[j]? = some (t.data[j]!) := by
  have h1 : j < t.data.size := hj
  rw [getElem!_pos t.data j h1, List.getElem?_eq_getElem (by simpa using h1)]
  simp
theorem b_10 (c : UInt8) : ((c.toNat : Int) = 10) ↔ c = 10 := by
  constructor
  · intro h; apply UInt8.toNat_inj.1; show c.toNat = 10; omega
  · intro h; subst h; rfl
theorem lastI_none (t : ByteArray) (h : 10 ∉ t.data.toList) : Lib.lastIndexByte t 10 = -1 := by
  rcases Lib.lastIndexByte_spec t 10 with ⟨h1, _⟩ | ⟨k, h1, h2, h3, _⟩
  · exact h1
  · exfalso
    have hg := get_b t h1
    rw [(b_10 _).1 h3] at hg
    exact h (List.mem_of_getElem? hg)
theorem lastI_at (t : ByteArray) (k : Nat) (hc : t.data.toList[k]? = some 10) (hn : 10 ∉ t.data.toList.drop (k + 1)) : Lib.lastIndexByte t 10 = k := by
  have hk : k < t.size := by rw [Lib.size_eq]; exact (List.getElem?_eq_some_iff.1 hc).1
  have hck : ((t.data[k]!).toNat : Int) = 10 := by
    have := get_b t hk
    rw [hc] at this
    rw [← Option.some.inj this]; rfl
  rcases Lib.lastIndexByte_spec t 10 with ⟨_, h2⟩ | ⟨j, h1, h2, h3, h4⟩
  · exact absurd hck (h2 k hk)
  · have hj : j = k := by
      rcases Nat.lt_trichotomy j k with q | q | q
      · exact absurd hck (h4 k q hk)
      · exact q
      · exfalso
        apply hn
        have hg := get_b t h1
        rw [(b_10 _).1 h3] at hg
        refine List.mem_iff_getElem?.2 ⟨j - (k + 1), ?_⟩
        rw [List.getElem?_drop, show k + 1 + (j - (k + 1)) = j by omega]
        exact hg
    rw [h2, hj]

theorem firstN_none (s : ByteArray) (h : 10 ∉ s.data.toList.take (min s.size 20000)) : firstN s = min s.size 20000 := by
  unfold firstN
  rw [lastI_none _ (by rw [Lib.extract_data]; simpa using h), if_neg (by omega)]
theorem firstN_at (s : ByteArray) (k : Nat) (hk : k < min s.size 20000) (hc : s.data.toList[k]? = some 10) (hn : 10 ∉ (s.data.toList.take (min s.size 20000)).drop (k + 1)) :
    firstN s = if textB (s.data.toList.take (k + 1)) = true then k + 1 else min s.size 20000 := by
  have hl := lastI_at (s.extract 0 (min s.size 20000)) k (by rw [Lib.extract_data, List.drop_zero, Nat.sub_zero, List.getElem?_take, if_pos hk]; exact hc) (by rw [Lib.extract_data]; simpa using hn)
  unfold firstN
  rw [hl, show ((k : Int) + 1).toNat = k + 1 by omega]
  by_cases ht : textB (s.data.toList.take (k + 1)) = true
  · rw [if_pos ⟨by omega, ht⟩, if_pos ht]
  · rw [if_neg (fun q => ht q.2), if_neg ht]

set_option maxRecDepth 100000 in
set_option maxHeartbeats 1600000 in
theorem ref_next (s : ByteArray) (hs : s.size ≤ 1000000000) (w : World) :
    Calls Tryz.prog 17 #[.string s] w fun e w' => e = .returned (.int .i64 (firstN s)) ∧ w = w' := by
  obtain ⟨m, hm⟩ : ∃ m, m = min s.size 20000 := ⟨_, rfl⟩
  have hms : m ≤ s.size := by omega
  have HM := Lib.hid hm
  by_cases hbig : 20000 < s.size
  all_goals
    first
      | (have hm2 : m = 20000 := by omega)
      | (have hm2 : m = s.size := by omega)
    have HM2 := Lib.hid hm2
    have hm1 : m ≤ 20000 := by omega
    try have hb2 : decide ((20000 : Int) < (s.size : Int)) = false := by rw [decide_eq_false_iff_not]; omega
    clear hm hm2
    go_enter Tryz.func17, Tryz.ntmps17
    go_wp2
    go_loop [4] (fun i => ∃ k : Nat, k ≤ m ∧ i = .int .i64 ((k : Int) - 1) ∧ 10 ∉ (s.data.toList.take m).drop k) (fun i => (intOf i + 1).toNat)
    case atStart =>
      refine ⟨m, Nat.le_refl _, ?_, ?_⟩
      · first | (rw [HM2.out]; done) | (rw [HM2.out]; rfl)
      · rw [List.drop_of_length_le (by rw [List.length_take]; omega)]; simp
    case round =>
      obtain ⟨k, hk, rfl, hno⟩ := hrel
      have HN := Lib.hid hno
      clear hno
      cases k with
      | zero =>
        have hz : ((0 : Nat) : Int) - 1 = -1 := rfl
        rw [hz]
        go_wp2
        go_ret
        refine ⟨ret_int ?_, rfl⟩
        have := HN.out
        rw [List.drop_zero, HM.out] at this
        rw [firstN_none s this, ← HM.out, HM2.out]
        try rfl
      | succ k =>
        have hz : ((k + 1 : Nat) : Int) - 1 = (k : Int) := by omega
        rw [hz]
        have hlt : k < s.size := by omega
        have hlm : k < m := by omega
        have hget := Lib.data_getElem? s k hlt
        have HG := Lib.hid hget
        clear hget hz
        have hk0 : (0 : Int) ≤ k := by omega
        have hk1 : (0 : Int) ≤ (k : Int) + 1 := by omega
        have hk2 : ((k : Int) + 1).toNat = k + 1 := by omega
        by_cases hc : s[k].toNat = 10
        · have ht : (((s[k].toNat : Nat) : Int) == 10) = true := by rw [beq_iff_eq]; omega
          have hfa := firstN_at s k (by rw [← HM.out]; exact hlm) (by rw [HG.out, show s[k] = 10 from UInt8.toNat_inj.1 hc]) (by rw [← HM.out]; exact HN.out)
          have htx := ref_Text (s.extract 0 (k + 1)) (hs := by rw [ByteArray.size_extract]; omega)
          rw [show (s.extract 0 (k + 1)).data.toList = s.data.toList.take (k + 1) by rw [Lib.extract_data]; simp] at htx
          clear hc
          cases hok : textB (s.data.toList.take (k + 1))
          · rw [hok] at htx hfa
            rw [if_neg (by simp), ← HM.out] at hfa
            have HF := Lib.hid hfa
            clear hok hfa
            go_wp2_with (go_at_call 26; (with_reducible refine (htx _).mono ?_); rintro e w' ⟨rfl, rfl⟩)
            go_ret
            refine ⟨ret_int ?_, rfl⟩
            rw [HF.out, HM2.out]
            try rfl
          · rw [hok] at htx hfa
            rw [if_pos rfl] at hfa
            have HF := Lib.hid hfa
            clear hok hfa
            go_wp2_with (go_at_call 26; (with_reducible refine (htx _).mono ?_); rintro e w' ⟨rfl, rfl⟩)
            go_ret
            refine ⟨ret_int ?_, rfl⟩
            rw [HF.out]; omega
        · have ht : (((s[k].toNat : Nat) : Int) == 10) = false := by rw [beq_eq_false_iff_ne]; omega
          have HC := Lib.hid hc
          clear hc
          go_wp2
          go_round
          case rel =>
            refine ⟨k, by omega, by go_num, ?_⟩
            have hkl : k < (s.data.toList.take m).length := by rw [List.length_take, ← Lib.size_eq]; omega
            rw [List.drop_eq_getElem_cons hkl]
            intro hm
            have hgk : (s.data.toList.take m)[k]? = some s[k] := by rw [List.getElem?_take, if_pos hlm]; exact HG.out
            rw [List.getElem?_eq_getElem hkl] at hgk
            rw [Option.some.inj hgk] at hm
            simp only [List.mem_cons] at hm
            rcases hm with hm | hm
            · exact HC.out (by rw [← hm]; rfl)
            · exact HN.out hm
          case measure => simp [intOf] <;> omega

set_option maxRecDepth 100000 in
set_option maxHeartbeats 1600000 in
theorem ref_Tell (way : Int) (s : ByteArray) (hs : s.size ≤ 1000000) (w : World) :
    Calls Tryz.prog 19 #[.int .i64 way, .string s] w fun e w' => e = .returned (.string ⟨(tellL way s.data.toList).toArray⟩) ∧ Below w.heap.size w w' := by
  have henc := fun w => ref_Encode s hs w
  have hesc := fun w => ref_Escape s w hs
  by_cases e1 : way = 1
  · have T := Lib.hid (show tellL way s.data.toList = s.data.toList by unfold tellL; rw [if_pos e1])
    subst e1
    go_enter Tryz.func19, Tryz.ntmps19
    go_wp2
    go_ret
    exact ⟨by rw [T.out]; rfl, Below.refl _ _⟩
  have b1 : (way == 1) = false := by rw [beq_eq_false_iff_ne]; exact e1
  by_cases e2 : way = 2
  · have T := Lib.hid (show tellL way s.data.toList = encL s.data.toList by unfold tellL; rw [if_neg e1, if_pos e2])
    subst e2
    clear b1 e1
    go_enter Tryz.func19, Tryz.ntmps19
    go_wp2_with (go_at_call 30; (with_reducible refine (henc _).mono ?_); rintro e w2 ⟨rfl, hb2⟩)
    go_ret
    exact ⟨by rw [T.out]; rfl, hb2⟩
  have b2 : (way == 2) = false := by rw [beq_eq_false_iff_ne]; exact e2
  have T := Lib.hid (show tellL way s.data.toList = escL s.data.toList by unfold tellL; rw [if_neg e1, if_neg e2])
  clear e1 e2
  go_enter Tryz.func19, Tryz.ntmps19
  go_wp2_with (go_at_call 31; (with_reducible refine (hesc _).mono ?_); rintro e w2 ⟨rfl, hb2⟩)
  go_ret
  exact ⟨by rw [T.out]; rfl, hb2⟩

set_option maxRecDepth 100000 in
set_option maxHeartbeats 3200000 in
theorem ref_Own (A : Option Addr) (n c : Nat) (xs : List It) (w : World) (hn : n = xs.length) (hl : n ≤ 1000000) (hx : ItemsAt w A xs) :
    Calls Tryz.prog 10 #[.slice A n c] w fun e w' => ∃ v, e = .returned v ∧ w'.ownsRow w.heap.size 3 1 v (ownE xs).length (intCells (ownE xs)) ∧ Below w.heap.size w w' := by
  obtain ⟨j0, hj0, hy0, hy1, hy2⟩ := info_parts infoInt
  have HX := Lib.hid hx; have HNN := Lib.hid hn
  clear hx hn
  go_enter Tryz.func10, Tryz.ntmps10
  go_wp2
  go_loopw [3, 4] (fun v i wr => ∃ k : Nat, k ≤ n ∧ i = .int .i64 k ∧ wr.ownsRow w.heap.size 3 1 v (ownK xs k).length (intCells (ownK xs k)) ∧ Below w.heap.size w wr) (fun _ i _ => n - (intOf i).toNat)
  case atStart => exact ⟨0, Nat.zero_le _, rfl, ⟨rfl, .inl ⟨rfl, rfl⟩⟩, Below.refl _ _⟩
  case round =>
    obtain ⟨k, hk, rfl, hown, hbw⟩ := hrel
    have hszw := hbw.size
    by_cases hlt : k < n
    · obtain ⟨x, hxk⟩ : ∃ x, xs[k]? = some x := ⟨_, List.getElem?_eq_getElem (by rw [← HNN.out]; exact hlt)⟩
      obtain ⟨a, rfl, q0, q1, q2, q3, q4⟩ := (HX.out.below (Nat.le_refl _) hbw).2 k x hxk
      have hkl := ownK_len xs k
      have hB := Lib.hid hbw; have HXK := Lib.hid hxk
      clear hbw hxk
      by_cases hk1 : x.kind = 1
      · have hkt : (x.kind == 1) = true := by rw [beq_iff_eq]; exact hk1
        cases hse : x.same.toList.isEmpty
        · have hno : isOwn x = false := by unfold isOwn; rw [hse]; simp
          have HNO := Lib.hid (ownK_no HXK.out hno)
          clear hk1 hno
          go_wp2
          go_roundw
          case rel => exact ⟨k + 1, by omega, by go_num, by rw [HNO.out]; exact hown, hB.out⟩
          case measure => simp [intOf]; omega
        · have hno : isOwn x = true := by unfold isOwn; rw [hse, hkt]; rfl
          have HNO := Lib.hid (ownK_yes HXK.out hno)
          obtain ⟨p, hp⟩ : ∃ p, p = ownK xs k := ⟨_, rfl⟩
          rw [← hp] at hown hkl HNO
          clear hk1 hno hp
          go_wp2_with (at_builtin; refine wpList_append_lies _ rfl _ _ 24 rfl w.heap.size 3 j0 (.int .i64 0) 1 8 Tryz.underlying24 hj0 hy0 hy1 hy2 rfl (by decide) _ _ _ rfl (hown.alloc _) ⟨wr.heap.size, 0, none⟩ 1 1 [.int .i64 k] rfl rfl ?c1 ?c2 (by decide) ?c3 ?c4 ?c5 _ rfl ?_)
          case c1 => intro j u hj; match j, hj with | 0, hj => simp at hj; subst hj; simp [Addr.add]
          case c2 => intro u hu; simp at hu; subst hu; rfl
          case c3 => unfold maxLen; omega
          case c4 => omega
          case c5 => simp; omega
          intro g cap w2 hown2 hgrow hat hlt2
          have hb2 : Below w.heap.size w w2 := ((hB.out).alloc (by omega) _).grown hgrow (by simp; omega) (fun k hk => (hown.lt k hk).1)
          have hown3 : w2.ownsRow w.heap.size 3 1 (.slice (some ⟨g, 0, none⟩) (p.length + 1) cap) (ownK xs (k + 1)).length (intCells (ownK xs (k + 1))) := by
            rw [HNO.out]; simpa [intCells] using hown2
          have HO := Lib.hid hown3; have HB2 := Lib.hid hb2
          clear hown2 hown3 hb2 hat hgrow hown
          go_wp2
          go_roundw
          case rel => exact ⟨k + 1, by omega, by go_num, HO.out, HB2.out⟩
          case measure => simp [intOf]; omega
      · have hkt : (x.kind == 1) = false := by rw [beq_eq_false_iff_ne]; exact hk1
        have hno : isOwn x = false := by unfold isOwn; rw [hkt]; rfl
        have HNO := Lib.hid (ownK_no HXK.out hno)
        clear hk1 hno
        go_wp2
        go_roundw
        case rel => exact ⟨k + 1, by omega, by go_num, by rw [HNO.out]; exact hown, hB.out⟩
        case measure => simp [intOf]; omega
    · have hkn : k = n := by omega
      have e : ownK xs k = ownE xs := by rw [hkn, HNN.out]; rfl
      rw [e] at hown
      have hB := Lib.hid hbw
      clear e hbw
      go_wp2
      go_ret
      exact ⟨_, rfl, hown, hB.out⟩
end Go.Proofs.YtomckoldfdeidaaGreatDoor

/- the document's words on plans: Parts. -/
namespace Go.Proofs.YtomckoldfdeidaaGreatDoor
open Go.RowKit

theorem infoP : (Tryz.prog.info? 44).map (fun i => (i.zero, i.size, i.bytes)) = some (some (.agg #[.int .i64 0, .int .i64 0, .string ⟨#[]⟩]), 3, 32) := by kernel_rfl

def strSz : Value → Nat | .string t => t.size | _ => 0
/-- What Parts hands back: the parts in a row of the call's own, or nothing. -/
def PartsAt (B : Nat) (w : World) (res : Int × List Pt) (v : Value) : Prop :=
  (res.1 = 0 → w.ownsRow B 44 3 v res.2.length (partCells res.2)) ∧ (res.1 ≠ 0 → v = .slice none 0 0)

theorem ext_nil {s : ByteArray} (h : s.size = 0) : s.toList.isEmpty = true := by
  rw [Lib.toList_data]
  have : s.data.toList.length = 0 := by rw [← Lib.size_eq]; exact h
  rw [List.length_eq_zero_iff.1 this]; rfl
theorem ext_ne {s : ByteArray} (h : s.size ≠ 0) : (!s.toList.isEmpty) = true := by
  rw [Lib.toList_data]; apply ne_isEmpty; intro q; apply h; rw [Lib.size_eq, q]; rfl

set_option maxRecDepth 100000 in
set_option maxHeartbeats 6400000 in
theorem ref_Parts_ways (A W : Option Addr) (n c nw cw : Nat) (xs : List It) (ws : List Int) (w : World) (hn : n = xs.length) (hl : n ≤ 4096) (hnw : nw = ws.length) (h0 : 0 < nw) (hwl : nw ≤ 1000000) (hx : ItemsAt w A xs) (hW : IntsAt w W ws)
    (hdat : ∀ x ∈ xs, x.data.size ≤ 200000) :
    Calls Tryz.prog 9 #[.slice A n c, .slice W nw cw] w fun e w' => ∃ v, e = .returned (.tuple #[v, .int .i64 (partsFrom xs ws 0 (ownE xs)).1]) ∧ Below w.heap.size w w' ∧ PartsAt w.heap.size w' (partsFrom xs ws 0 (ownE xs)) v := by
  obtain ⟨j0, hj0, hy0, hy1, hy2⟩ := info_parts infoP
  have hown := fun w hx => ref_Own A n c xs w hn (by omega) hx
  obtain ⟨res, hres⟩ : ∃ res, res = partsFrom xs ws 0 (ownE xs) := ⟨_, rfl⟩
  rw [← hres]
  have hz : ((nw : Int) == 0) = false := by rw [beq_eq_false_iff_ne]; omega
  have HX := Lib.hid hx; have HW := Lib.hid hW; have HNN := Lib.hid hn; have HDAT := Lib.hid hdat; have HRES := Lib.hid hres; have HNW := Lib.hid hnw
  have hown0 := hown w hx
  clear hx hW hn hdat hres hown hnw
  go_enter Tryz.func9, Tryz.ntmps9
  go_wp2_with (go_at_call 10; with_reducible refine hown0.mono ?_)
  rintro e w1 ⟨vf, rfl, ho, hb1⟩
  obtain ⟨m, hm⟩ : ∃ m, m = (ownE xs).length := ⟨_, rfl⟩
  have hmn : m ≤ 4096 := by rw [hm]; have := ownK_len xs xs.length; have h2 := HNN.out; unfold ownE; omega
  rw [← hm] at ho
  obtain ⟨Fo, d, rfl⟩ : ∃ Fo d, vf = .slice Fo m d := by
    rcases ho.2 with ⟨h, h2⟩ | ⟨gp, cp, cur, h, _⟩
    · exact ⟨none, 0, by rw [h, h2]⟩
    · exact ⟨_, _, h⟩
  have hcells : ∀ j i, (ownE xs)[j]? = some i → ∃ f, Fo = some f ∧ f.block < w1.heap.size ∧ w1.cell? (f.add j) = some (.int .i64 (i : Nat)) := by
    intro j i hji
    have hjm : j < m := by rw [hm]; exact (List.getElem?_eq_some_iff.1 hji).1
    rcases ho.2 with ⟨h, h2⟩ | ⟨gp, cp, cur, h, _⟩
    · omega
    · injection h with q1 q2 q3
      subst q1
      refine ⟨_, rfl, (ho.lt gp rfl).2, ?_⟩
      exact ho.cells (g := gp) rfl j _ (by unfold intCells; rw [List.getElem?_map, hji]; rfl)
  have HCELLS := Lib.hid hcells; have HB1 := Lib.hid hb1; have HM := Lib.hid hm
  have hx1 := HX.out.below (Nat.le_refl _) hb1
  have hw1 := HW.out.below (Nat.le_refl _) hb1
  have hs1 := hb1.size
  have HX1 := Lib.hid hx1; have HW1 := Lib.hid hw1
  clear ho hcells hb1 hm hx1 hw1 hown0
  go_wp2
  go_loopw [6, 8] (fun v i wr => ∃ (j : Nat) (ps : List Pt), j ≤ m ∧ i = .int .i64 j ∧ ps.length ≤ j * 200000 ∧ (partsFrom xs ws j ((ownE xs).drop j)).1 = res.1 ∧ ps ++ (partsFrom xs ws j ((ownE xs).drop j)).2 = res.2 ∧ wr.ownsRow w1.heap.size 44 3 v ps.length (partCells ps) ∧ Below w1.heap.size w1 wr) (fun _ i _ => m - (intOf i).toNat)
  case atStart => exact ⟨0, [], Nat.zero_le _, rfl, by simp, by rw [HRES.out]; rfl, by rw [HRES.out]; rfl, ⟨rfl, .inl ⟨rfl, rfl⟩⟩, Below.refl _ _⟩
  case round =>
    obtain ⟨j, ps, hj, rfl, hpl, hr1, hr2, hrow, hbw⟩ := hrel
    by_cases hlt : j < m
    · obtain ⟨i, hji⟩ : ∃ i, (ownE xs)[j]? = some i := ⟨_, List.getElem?_eq_getElem (by rw [← HM.out]; exact hlt)⟩
      have hin : i < n := by rw [HNN.out]; exact ownK_lt (List.mem_of_getElem? hji)
      obtain ⟨x, hxi⟩ : ∃ x, xs[i]? = some x := ⟨_, List.getElem?_eq_getElem (by rw [← HNN.out]; exact hin)⟩
      obtain ⟨f, rfl, hfb, hfc⟩ := HCELLS.out j i hji
      have hfc2 : wr.cell? (f.add j) = some (.int .i64 (i : Nat)) := by rw [← hfc]; exact hbw.cell (by rw [add_block]; exact hfb)
      obtain ⟨a, rfl, q0, q1, q2, q3, q4⟩ := (HX1.out.below (Nat.le_refl _) hbw).2 i x hxi
      have hdx : datE xs i = x.data := by unfold datE; rw [hxi]; rfl
      have hxd := HDAT.out x (List.mem_of_getElem? hxi)
      have hdrop : (ownE xs).drop j = i :: (ownE xs).drop (j + 1) := by
        have hl : j < (ownE xs).length := by rw [← HM.out]; exact hlt
        rw [List.drop_eq_getElem_cons hl]
        rw [List.getElem?_eq_getElem hl] at hji
        rw [Option.some.inj hji]
      rw [hdrop, partsFrom, hdx] at hr1 hr2
      have HR1 := Lib.hid hr1; have HR2 := Lib.hid hr2; have HBW := Lib.hid hbw
      have hjj : j * 200000 ≤ 819200000 := by omega
      clear hr1 hr2 hbw hji hxi hdx hdrop hfc hfb q0 q1 q2 q4
      go_wp2
      go_loopw [6, 9] (fun v sv wz => ∃ (t : ByteArray) (qs : List Pt), sv = .string t ∧ qs.length + t.size ≤ ps.length + 200000 ∧ t.size ≤ 200000 ∧ (fileE j ws t).1 = (fileE j ws x.data).1 ∧ qs ++ (fileE j ws t).2 = ps ++ (fileE j ws x.data).2 ∧ wz.ownsRow w1.heap.size 44 3 v qs.length (partCells qs) ∧ Below w1.heap.size w1 wz) (fun _ sv _ => strSz sv)
      case atStart => exact ⟨x.data, ps, rfl, by omega, hxd, rfl, rfl, hrow, HBW.out⟩
      case round =>
        obtain ⟨t, qs, rfl, hql, htz, hf1, hf2, hrow2, hbz⟩ := hrel
        have hsz2 := hbz.size
        by_cases ht0 : t.size = 0
        · have hte : (!t.toList.isEmpty) = false := by rw [ext_nil ht0]; rfl
          have hte2 := ext_nil ht0
          rw [fileE_nil _ _ _ ht0] at hf1 hf2
          have hr1 := HR1.out
          have hr2 := HR2.out
          rw [if_neg (by rw [← hf1]; simp)] at hr1 hr2
          rw [← List.append_assoc, ← hf2, List.append_nil] at hr2
          have HR3 := Lib.hid hr1; have HR4 := Lib.hid hr2; have HBZ := Lib.hid hbz
          clear hr1 hr2 hf1 hf2 hbz
          go_wp2
          go_roundw
          case rel => exact ⟨j + 1, qs, by omega, by go_num, by omega, HR3.out, HR4.out, hrow2, HBZ.out⟩
          case measure => simp [intOf]; omega
        · have hte : (!t.toList.isEmpty) = true := ext_ne ht0
          obtain ⟨hn1, hn2, hn3⟩ := firstN_ok t (by omega)
          have hnx := fun w => ref_next t (by omega) w
          have hbad := fileE_bad (j : Int) ws t ht0
          have hgood := fileE_more (j : Int) ws t ht0
          obtain ⟨q, hq⟩ : ∃ q, q = firstN t := ⟨_, rfl⟩
          rw [← hq] at hn1 hn2 hn3 hnx hbad hgood
          have hex : (t.extract 0 q).data.toList = t.data.toList.take q := by rw [Lib.extract_data]; simp
          have hez : (t.extract 0 q).size = q := by rw [ByteArray.size_extract]; omega
          have hbest := ref_Best (t.extract 0 q) ws nw W cw wr HNW.out h0 hwl (by omega) (by omega) (HW1.out.below (Nat.le_refl _) hbz)
          rw [hex] at hbest
          obtain ⟨be, hbe⟩ : ∃ be, be = bestE (t.data.toList.take q) ws := ⟨_, rfl⟩
          rw [← hbe] at hbest hbad hgood
          have htell := fun w => ref_Tell be.1 (t.extract 0 q) (by omega) w
          rw [hex] at htell
          have HQ := Lib.hid hq; have HBZ := Lib.hid hbz; have HEX := Lib.hid hex; have HBE := Lib.hid hbe; have HEZ := Lib.hid hez; have HTE := Lib.hid ht0
          clear hq hbz hex hbe hez ht0
          by_cases he : be.2 = 0
          · have hg := hgood he
            rw [hg] at hf1 hf2
            obtain ⟨pt, hpt⟩ : ∃ pt : Pt, pt = ⟨(j : Int), be.1, tellL be.1 (t.data.toList.take q)⟩ := ⟨_, rfl⟩
            rw [← hpt] at hf2
            have hf3 : (qs ++ [pt]) ++ (fileE (j : Int) ws (t.extract q t.size)).2 = ps ++ (fileE (j : Int) ws x.data).2 := by rw [← hf2]; simp
            have HF1 := Lib.hid hf1; have HF3 := Lib.hid hf3; have HPT := Lib.hid hpt
            obtain ⟨tx, htx⟩ : ∃ tx : ByteArray, tx = ⟨(tellL be.1 (t.data.toList.take q)).toArray⟩ := ⟨_, rfl⟩
            rw [← htx] at htell
            have hpc : partCells (qs ++ [pt]) = partCells qs ++ [.int .i64 (j : Int), .int .i64 be.1, .string tx] := by rw [partCells_snoc, hpt, htx]; rfl
            have HPC := Lib.hid hpc
            obtain ⟨wy, hwy⟩ : ∃ wy, wy = be.1 := ⟨_, rfl⟩
            rw [he] at hbest
            rw [← hwy] at hbest htell HPC
            have hqz : qs.length ≤ 820000000 := by omega
            clear hg hf1 hf2 hf3 hpt htx hpc hwy hbad hgood
            go_wp2_with (first | (go_at_call 17; (with_reducible refine (hnx _).mono ?_); rintro e w' ⟨rfl, rfl⟩) | (go_at_call 18; with_reducible refine hbest.mono ?_))
            rintro e w2 ⟨rfl, hb2⟩
            go_wp2_with (go_at_call 19; with_reducible refine (htell _).mono ?_)
            rintro e w3 ⟨rfl, hb3⟩
            have hb23 := hb2.trans (hb3.mono hb2.size)
            have hrow3 := own_below hrow2 hb23
            have hs3 := hb23.size
            go_wp2_with (at_builtin; refine wpList_append_lies _ rfl _ _ 37 rfl w1.heap.size 44 j0 (.agg #[.int .i64 0, .int .i64 0, .string ⟨#[]⟩]) 3 32 Tryz.underlying37 hj0 hy0 hy1 hy2 rfl (by decide) _ _ _ rfl (hrow3.alloc _) ⟨w3.heap.size, 0, none⟩ 1 1 [.int .i64 (j : Int), .int .i64 wy, .string tx] rfl rfl ?c1 ?c2 (by decide) ?c3 ?c4 ?c5 _ rfl ?_)
            case c1 =>
              intro j u hj
              match j, hj with
              | 0, hj => simp at hj; subst hj; simp [Addr.add]
              | 1, hj => simp at hj; subst hj; simp [Addr.add]
              | 2, hj => simp at hj; subst hj; simp [Addr.add]
            case c2 => intro u hu; simp at hu; rcases hu with h | h | h <;> subst h <;> rfl
            case c3 => unfold maxLen; omega
            case c4 => omega
            case c5 => simp; omega
            intro g cap w4 hown4 hgrow hat hlt4
            have hb4 : Below w1.heap.size w1 w4 := ((HBZ.out.trans (hb23.mono hsz2)).alloc (by omega) _).grown hgrow (by simp; omega) (fun k hk => (hrow3.lt k hk).1)
            rw [← HPC.out] at hown4
            have HO4 : Hid (w4.ownsRow w1.heap.size 44 3 (.slice (some ⟨g, 0, none⟩) (qs.length + 1) cap) (qs ++ [pt]).length (partCells (qs ++ [pt]))) := by
              show w4.ownsRow _ _ _ _ _ _
              rw [List.length_append]; exact hown4
            have HB4 := Lib.hid hb4
            clear hown4 hb4 hgrow hat hrow3 hrow2 hb2 hb3 hb23
            go_wp2
            go_roundw
            case rel => exact ⟨t.extract q t.size, qs ++ [pt], rfl, by rw [ByteArray.size_extract, List.length_append, List.length_singleton]; omega, by rw [ByteArray.size_extract]; omega, HF1.out, HF3.out, HO4.out, HB4.out⟩
            case measure =>
              show (t.extract q t.size).size < t.size
              rw [ByteArray.size_extract]; omega
          · have hg := hbad he
            rw [hg] at hf1 hf2
            have hr1 := HR1.out
            rw [if_pos (by rw [← hf1]; exact he), ← hf1] at hr1
            obtain ⟨be1, be2⟩ := be
            have hne : (be2 != 0) = true := by rw [bne_iff_ne]; exact he
            have HE := Lib.hid he; have HR5 := Lib.hid hr1
            clear hg hf1 hf2 hbad hgood he hr1
            go_wp2_with (first | (go_at_call 17; (with_reducible refine (hnx _).mono ?_); rintro e w' ⟨rfl, rfl⟩) | (go_at_call 18; with_reducible refine hbest.mono ?_))
            rintro e w2 ⟨rfl, hb2⟩
            go_wp2
            go_ret2
            have hr := HR5.out
            exact ⟨.slice none 0 0, by rw [← hr]; rfl, HB1.out.trans ((HBZ.out.trans (hb2.mono hsz2)).mono hs1), fun q => absurd (hr.trans q) HE.out, fun _ => rfl⟩
    · have hjm : j = m := by omega
      rw [show (ownE xs).drop j = [] by rw [hjm, HM.out]; exact List.drop_length] at hr1 hr2
      unfold partsFrom at hr1 hr2
      rw [List.append_nil] at hr2
      have HR1 := Lib.hid hr1; have HR2 := Lib.hid hr2; have HBW := Lib.hid hbw
      clear hr1 hr2 hbw
      go_wp2
      go_ret2
      refine ⟨_, by rw [← HR1.out]; rfl, HB1.out.trans (HBW.out.mono hs1), fun _ => ?_, fun q => absurd HR1.out.symm q⟩
      rw [← HR2.out]
      exact own_base hrow hs1
end Go.Proofs.YtomckoldfdeidaaGreatDoor

/- the document's words on plans: Parts, with no ways named; with any. -/
namespace Go.Proofs.YtomckoldfdeidaaGreatDoor
open Go.RowKit

set_option maxRecDepth 100000 in
set_option maxHeartbeats 6400000 in
theorem ref_Parts_none (A W : Option Addr) (n c cw : Nat) (xs : List It) (ws : List Int) (w : World) (hn : n = xs.length) (hl : n ≤ 4096) (hws : ws = [1, 2, 3]) (hx : ItemsAt w A xs)
    (hdat : ∀ x ∈ xs, x.data.size ≤ 200000) :
    Calls Tryz.prog 9 #[.slice A n c, .slice W 0 cw] w fun e w' => ∃ v, e = .returned (.tuple #[v, .int .i64 (partsFrom xs ws 0 (ownE xs)).1]) ∧ Below w.heap.size w w' ∧ PartsAt w.heap.size w' (partsFrom xs ws 0 (ownE xs)) v := by
  obtain ⟨j0, hj0, hy0, hy1, hy2⟩ := info_parts infoP
  have hown := fun w hx => ref_Own A n c xs w hn (by omega) hx
  obtain ⟨res, hres⟩ : ∃ res, res = partsFrom xs ws 0 (ownE xs) := ⟨_, rfl⟩
  rw [← hres]
  have hal : Below w.heap.size w (w.alloc (.cells #[.int .i64 1, .int .i64 2, .int .i64 3] 3)) := (Below.refl _ _).alloc (Nat.le_refl _) _
  have hW : IntsAt (w.alloc (.cells #[.int .i64 1, .int .i64 2, .int .i64 3] 3)) (some ⟨w.heap.size, 0, none⟩) ws := by
    have hblk := (MapKept.heap_alloc w (.cells #[.int .i64 1, .int .i64 2, .int .i64 3] 3)).1
    rw [hws]
    intro i x hx
    refine ⟨_, rfl, ?_⟩
    match i, hx with
    | 0, hx => simp at hx; subst hx; rw [show (⟨w.heap.size, 0, none⟩ : Addr).add 0 = ⟨w.heap.size, 0, none⟩ by simp [Addr.add], Lib.cell_of_heap hblk]; rfl
    | 1, hx => simp at hx; subst hx; rw [show (⟨w.heap.size, 0, none⟩ : Addr).add 1 = ⟨w.heap.size, 1, none⟩ by simp [Addr.add], Lib.cell_of_heap hblk]; rfl
    | 2, hx => simp at hx; subst hx; rw [show (⟨w.heap.size, 0, none⟩ : Addr).add 2 = ⟨w.heap.size, 2, none⟩ by simp [Addr.add], Lib.cell_of_heap hblk]; rfl
  have hnw : 3 = ws.length := by rw [hws]; rfl
  have HAL := Lib.hid hal
  have HX := Lib.hid hx; have HW := Lib.hid hW; have HNN := Lib.hid hn; have HDAT := Lib.hid hdat; have HRES := Lib.hid hres; have HNW := Lib.hid hnw
  have hown0 := hown (w.alloc (.cells #[.int .i64 1, .int .i64 2, .int .i64 3] 3)) (hx.below (Nat.le_refl _) hal)
  clear hx hW hn hdat hres hown hnw hal hws
  go_enter Tryz.func9, Tryz.ntmps9
  go_wp2_with (go_at_call 10; with_reducible refine hown0.mono ?_)
  rintro e w1 ⟨vf, rfl, ho, hb0⟩
  have hb1 : Below w.heap.size w w1 := HAL.out.trans (hb0.mono HAL.out.size)
  obtain ⟨m, hm⟩ : ∃ m, m = (ownE xs).length := ⟨_, rfl⟩
  have hmn : m ≤ 4096 := by rw [hm]; have := ownK_len xs xs.length; have h2 := HNN.out; unfold ownE; omega
  rw [← hm] at ho
  obtain ⟨Fo, d, rfl⟩ : ∃ Fo d, vf = .slice Fo m d := by
    rcases ho.2 with ⟨h, h2⟩ | ⟨gp, cp, cur, h, _⟩
    · exact ⟨none, 0, by rw [h, h2]⟩
    · exact ⟨_, _, h⟩
  have hcells : ∀ j i, (ownE xs)[j]? = some i → ∃ f, Fo = some f ∧ f.block < w1.heap.size ∧ w1.cell? (f.add j) = some (.int .i64 (i : Nat)) := by
    intro j i hji
    have hjm : j < m := by rw [hm]; exact (List.getElem?_eq_some_iff.1 hji).1
    rcases ho.2 with ⟨h, h2⟩ | ⟨gp, cp, cur, h, _⟩
    · omega
    · injection h with q1 q2 q3
      subst q1
      refine ⟨_, rfl, (ho.lt gp rfl).2, ?_⟩
      exact ho.cells (g := gp) rfl j _ (by unfold intCells; rw [List.getElem?_map, hji]; rfl)
  have HCELLS := Lib.hid hcells; have HB1 := Lib.hid hb1; have HM := Lib.hid hm
  have hx1 := HX.out.below (Nat.le_refl _) hb1
  have hw1 := HW.out.below (Nat.le_refl _) hb0
  have hs1 := hb1.size
  have HX1 := Lib.hid hx1; have HW1 := Lib.hid hw1
  clear ho hcells hb0 hb1 hm hx1 hw1 hown0
  go_wp2
  go_loopw [6, 8] (fun v i wr => ∃ (j : Nat) (ps : List Pt), j ≤ m ∧ i = .int .i64 j ∧ ps.length ≤ j * 200000 ∧ (partsFrom xs ws j ((ownE xs).drop j)).1 = res.1 ∧ ps ++ (partsFrom xs ws j ((ownE xs).drop j)).2 = res.2 ∧ wr.ownsRow w1.heap.size 44 3 v ps.length (partCells ps) ∧ Below w1.heap.size w1 wr) (fun _ i _ => m - (intOf i).toNat)
  case atStart => exact ⟨0, [], Nat.zero_le _, rfl, by simp, by rw [HRES.out]; rfl, by rw [HRES.out]; rfl, ⟨rfl, .inl ⟨rfl, rfl⟩⟩, Below.refl _ _⟩
  case round =>
    obtain ⟨j, ps, hj, rfl, hpl, hr1, hr2, hrow, hbw⟩ := hrel
    by_cases hlt : j < m
    · obtain ⟨i, hji⟩ : ∃ i, (ownE xs)[j]? = some i := ⟨_, List.getElem?_eq_getElem (by rw [← HM.out]; exact hlt)⟩
      have hin : i < n := by rw [HNN.out]; exact ownK_lt (List.mem_of_getElem? hji)
      obtain ⟨x, hxi⟩ : ∃ x, xs[i]? = some x := ⟨_, List.getElem?_eq_getElem (by rw [← HNN.out]; exact hin)⟩
      obtain ⟨f, rfl, hfb, hfc⟩ := HCELLS.out j i hji
      have hfc2 : wr.cell? (f.add j) = some (.int .i64 (i : Nat)) := by rw [← hfc]; exact hbw.cell (by rw [add_block]; exact hfb)
      obtain ⟨a, rfl, q0, q1, q2, q3, q4⟩ := (HX1.out.below (Nat.le_refl _) hbw).2 i x hxi
      have hdx : datE xs i = x.data := by unfold datE; rw [hxi]; rfl
      have hxd := HDAT.out x (List.mem_of_getElem? hxi)
      have hdrop : (ownE xs).drop j = i :: (ownE xs).drop (j + 1) := by
        have hl : j < (ownE xs).length := by rw [← HM.out]; exact hlt
        rw [List.drop_eq_getElem_cons hl]
        rw [List.getElem?_eq_getElem hl] at hji
        rw [Option.some.inj hji]
      rw [hdrop, partsFrom, hdx] at hr1 hr2
      have HR1 := Lib.hid hr1; have HR2 := Lib.hid hr2; have HBW := Lib.hid hbw
      have hjj : j * 200000 ≤ 819200000 := by omega
      clear hr1 hr2 hbw hji hxi hdx hdrop hfc hfb q0 q1 q2 q4
      go_wp2
      go_loopw [6, 9] (fun v sv wz => ∃ (t : ByteArray) (qs : List Pt), sv = .string t ∧ qs.length + t.size ≤ ps.length + 200000 ∧ t.size ≤ 200000 ∧ (fileE j ws t).1 = (fileE j ws x.data).1 ∧ qs ++ (fileE j ws t).2 = ps ++ (fileE j ws x.data).2 ∧ wz.ownsRow w1.heap.size 44 3 v qs.length (partCells qs) ∧ Below w1.heap.size w1 wz) (fun _ sv _ => strSz sv)
      case atStart => exact ⟨x.data, ps, rfl, by omega, hxd, rfl, rfl, hrow, HBW.out⟩
      case round =>
        obtain ⟨t, qs, rfl, hql, htz, hf1, hf2, hrow2, hbz⟩ := hrel
        have hsz2 := hbz.size
        by_cases ht0 : t.size = 0
        · have hte : (!t.toList.isEmpty) = false := by rw [ext_nil ht0]; rfl
          have hte2 := ext_nil ht0
          rw [fileE_nil _ _ _ ht0] at hf1 hf2
          have hr1 := HR1.out
          have hr2 := HR2.out
          rw [if_neg (by rw [← hf1]; simp)] at hr1 hr2
          rw [← List.append_assoc, ← hf2, List.append_nil] at hr2
          have HR3 := Lib.hid hr1; have HR4 := Lib.hid hr2; have HBZ := Lib.hid hbz
          clear hr1 hr2 hf1 hf2 hbz
          go_wp2
          go_roundw
          case rel => exact ⟨j + 1, qs, by omega, by go_num, by omega, HR3.out, HR4.out, hrow2, HBZ.out⟩
          case measure => simp [intOf]; omega
        · have hte : (!t.toList.isEmpty) = true := ext_ne ht0
          obtain ⟨hn1, hn2, hn3⟩ := firstN_ok t (by omega)
          have hnx := fun w => ref_next t (by omega) w
          have hbad := fileE_bad (j : Int) ws t ht0
          have hgood := fileE_more (j : Int) ws t ht0
          obtain ⟨q, hq⟩ : ∃ q, q = firstN t := ⟨_, rfl⟩
          rw [← hq] at hn1 hn2 hn3 hnx hbad hgood
          have hex : (t.extract 0 q).data.toList = t.data.toList.take q := by rw [Lib.extract_data]; simp
          have hez : (t.extract 0 q).size = q := by rw [ByteArray.size_extract]; omega
          have hbest := ref_Best (t.extract 0 q) ws 3 (some ⟨w.heap.size, 0, none⟩) 3 wr HNW.out (by omega) (by omega) (by omega) (by omega) (HW1.out.below (Nat.le_refl _) hbz)
          rw [hex] at hbest
          obtain ⟨be, hbe⟩ : ∃ be, be = bestE (t.data.toList.take q) ws := ⟨_, rfl⟩
          rw [← hbe] at hbest hbad hgood
          have htell := fun w => ref_Tell be.1 (t.extract 0 q) (by omega) w
          rw [hex] at htell
          have HQ := Lib.hid hq; have HBZ := Lib.hid hbz; have HEX := Lib.hid hex; have HBE := Lib.hid hbe; have HEZ := Lib.hid hez; have HTE := Lib.hid ht0
          clear hq hbz hex hbe hez ht0
          by_cases he : be.2 = 0
          · have hg := hgood he
            rw [hg] at hf1 hf2
            obtain ⟨pt, hpt⟩ : ∃ pt : Pt, pt = ⟨(j : Int), be.1, tellL be.1 (t.data.toList.take q)⟩ := ⟨_, rfl⟩
            rw [← hpt] at hf2
            have hf3 : (qs ++ [pt]) ++ (fileE (j : Int) ws (t.extract q t.size)).2 = ps ++ (fileE (j : Int) ws x.data).2 := by rw [← hf2]; simp
            have HF1 := Lib.hid hf1; have HF3 := Lib.hid hf3; have HPT := Lib.hid hpt
            obtain ⟨tx, htx⟩ : ∃ tx : ByteArray, tx = ⟨(tellL be.1 (t.data.toList.take q)).toArray⟩ := ⟨_, rfl⟩
            rw [← htx] at htell
            have hpc : partCells (qs ++ [pt]) = partCells qs ++ [.int .i64 (j : Int), .int .i64 be.1, .string tx] := by rw [partCells_snoc, hpt, htx]; rfl
            have HPC := Lib.hid hpc
            obtain ⟨wy, hwy⟩ : ∃ wy, wy = be.1 := ⟨_, rfl⟩
            rw [he] at hbest
            rw [← hwy] at hbest htell HPC
            have hqz : qs.length ≤ 820000000 := by omega
            clear hg hf1 hf2 hf3 hpt htx hpc hwy hbad hgood
            go_wp2_with (first | (go_at_call 17; (with_reducible refine (hnx _).mono ?_); rintro e w' ⟨rfl, rfl⟩) | (go_at_call 18; with_reducible refine hbest.mono ?_))
            rintro e w2 ⟨rfl, hb2⟩
            go_wp2_with (go_at_call 19; with_reducible refine (htell _).mono ?_)
            rintro e w3 ⟨rfl, hb3⟩
            have hb23 := hb2.trans (hb3.mono hb2.size)
            have hrow3 := own_below hrow2 hb23
            have hs3 := hb23.size
            go_wp2_with (at_builtin; refine wpList_append_lies _ rfl _ _ 37 rfl w1.heap.size 44 j0 (.agg #[.int .i64 0, .int .i64 0, .string ⟨#[]⟩]) 3 32 Tryz.underlying37 hj0 hy0 hy1 hy2 rfl (by decide) _ _ _ rfl (hrow3.alloc _) ⟨w3.heap.size, 0, none⟩ 1 1 [.int .i64 (j : Int), .int .i64 wy, .string tx] rfl rfl ?c1 ?c2 (by decide) ?c3 ?c4 ?c5 _ rfl ?_)
            case c1 =>
              intro j u hj
              match j, hj with
              | 0, hj => simp at hj; subst hj; simp [Addr.add]
              | 1, hj => simp at hj; subst hj; simp [Addr.add]
              | 2, hj => simp at hj; subst hj; simp [Addr.add]
            case c2 => intro u hu; simp at hu; rcases hu with h | h | h <;> subst h <;> rfl
            case c3 => unfold maxLen; omega
            case c4 => omega
            case c5 => simp; omega
            intro g cap w4 hown4 hgrow hat hlt4
            have hb4 : Below w1.heap.size w1 w4 := ((HBZ.out.trans (hb23.mono hsz2)).alloc (by omega) _).grown hgrow (by simp; omega) (fun k hk => (hrow3.lt k hk).1)
            rw [← HPC.out] at hown4
            have HO4 : Hid (w4.ownsRow w1.heap.size 44 3 (.slice (some ⟨g, 0, none⟩) (qs.length + 1) cap) (qs ++ [pt]).length (partCells (qs ++ [pt]))) := by
              show w4.ownsRow _ _ _ _ _ _
              rw [List.length_append]; exact hown4
            have HB4 := Lib.hid hb4
            clear hown4 hb4 hgrow hat hrow3 hrow2 hb2 hb3 hb23
            go_wp2
            go_roundw
            case rel => exact ⟨t.extract q t.size, qs ++ [pt], rfl, by rw [ByteArray.size_extract, List.length_append, List.length_singleton]; omega, by rw [ByteArray.size_extract]; omega, HF1.out, HF3.out, HO4.out, HB4.out⟩
            case measure =>
              show (t.extract q t.size).size < t.size
              rw [ByteArray.size_extract]; omega
          · have hg := hbad he
            rw [hg] at hf1 hf2
            have hr1 := HR1.out
            rw [if_pos (by rw [← hf1]; exact he), ← hf1] at hr1
            obtain ⟨be1, be2⟩ := be
            have hne : (be2 != 0) = true := by rw [bne_iff_ne]; exact he
            have HE := Lib.hid he; have HR5 := Lib.hid hr1
            clear hg hf1 hf2 hbad hgood he hr1
            go_wp2_with (first | (go_at_call 17; (with_reducible refine (hnx _).mono ?_); rintro e w' ⟨rfl, rfl⟩) | (go_at_call 18; with_reducible refine hbest.mono ?_))
            rintro e w2 ⟨rfl, hb2⟩
            go_wp2
            go_ret2
            have hr := HR5.out
            exact ⟨.slice none 0 0, by rw [← hr]; rfl, HB1.out.trans ((HBZ.out.trans (hb2.mono hsz2)).mono hs1), fun q => absurd (hr.trans q) HE.out, fun _ => rfl⟩
    · have hjm : j = m := by omega
      rw [show (ownE xs).drop j = [] by rw [hjm, HM.out]; exact List.drop_length] at hr1 hr2
      unfold partsFrom at hr1 hr2
      rw [List.append_nil] at hr2
      have HR1 := Lib.hid hr1; have HR2 := Lib.hid hr2; have HBW := Lib.hid hbw
      clear hr1 hr2 hbw
      go_wp2
      go_ret2
      refine ⟨_, by rw [← HR1.out]; rfl, HB1.out.trans (HBW.out.mono hs1), fun _ => ?_, fun q => absurd HR1.out.symm q⟩
      rw [← HR2.out]
      exact own_base hrow hs1
theorem ref_Parts (A W : Option Addr) (n c nw cw : Nat) (xs : List It) (ways : List Int) (w : World) (hn : n = xs.length) (hl : n ≤ 4096) (hnw : nw = ways.length) (hwl : nw ≤ 1000000) (hx : ItemsAt w A xs) (hW : IntsAt w W ways)
    (hdat : ∀ x ∈ xs, x.data.size ≤ 200000) :
    Calls Tryz.prog 9 #[.slice A n c, .slice W nw cw] w fun e w' => ∃ v, e = .returned (.tuple #[v, .int .i64 (partsFrom xs (wayS ways) 0 (ownE xs)).1]) ∧ Below w.heap.size w w' ∧ PartsAt w.heap.size w' (partsFrom xs (wayS ways) 0 (ownE xs)) v := by
  by_cases h0 : ways = []
  · subst h0
    obtain rfl : nw = 0 := hnw
    exact ref_Parts_none A W n c cw xs (wayS []) w hn hl rfl hx hdat
  · have e : wayS ways = ways := by unfold wayS; rw [if_neg h0]
    rw [e]
    exact ref_Parts_ways A W n c nw cw xs ways w hn hl hnw (by rw [hnw]; exact List.length_pos_iff.2 h0) hwl hx hW hdat
end Go.Proofs.YtomckoldfdeidaaGreatDoor

/- the document's example: the walk of the statement's anchor. -/
namespace Go.Proofs.YtomckoldfdeidaaGreatDoor
open Go.RowKit

theorem slice_of {w : World} {B : Nat} {T : TypeId} {size n : Nat} {v : Value} {xs : List Value} (h : w.ownsRow B T size v n xs) : ∃ (A : Option Addr) (c : Nat), v = .slice A n c := by
  rcases h.2 with ⟨a, b⟩ | ⟨g, cap, cur, a, _⟩
  · exact ⟨none, 0, by rw [a, b]⟩
  · exact ⟨_, _, a⟩

set_option maxRecDepth 100000 in
set_option maxHeartbeats 3200000 in
theorem law_anchor (w : World) (hg : Glob w) : Calls Tryz.prog 4 #[] w fun e w' => e = .returned (.bool true) ∧ Below w.heap.size w w' := by
  have hal : Below w.heap.size w (w.alloc (.cells #[.string ⟨#[97]⟩, .int .i64 1, .int .i64 0, .string ⟨#[97, 10, 98]⟩, .string ⟨#[]⟩] 42)) := (Below.refl _ _).alloc (Nat.le_refl _) _
  have hit : ItemsAt (w.alloc (.cells #[.string ⟨#[97]⟩, .int .i64 1, .int .i64 0, .string ⟨#[97, 10, 98]⟩, .string ⟨#[]⟩] 42)) (some ⟨w.heap.size, 0, none⟩) [anchX] := by
    have hblk := (MapKept.heap_alloc w (.cells #[.string ⟨#[97]⟩, .int .i64 1, .int .i64 0, .string ⟨#[97, 10, 98]⟩, .string ⟨#[]⟩] 42)).1
    refine ⟨by decide, fun i x hx => ⟨_, rfl, ?_⟩⟩
    match i, hx with
    | 0, hx =>
      simp at hx; subst hx
      rw [show (⟨w.heap.size, 0, none⟩ : Addr).add (0 * 5) = ⟨w.heap.size, 0, none⟩ by simp [Addr.add]]
      exact ⟨cell_blk hblk 0 rfl, cell_blk hblk 1 rfl, cell_blk hblk 2 rfl, cell_blk hblk 3 rfl, cell_blk hblk 4 rfl⟩
  have hmk : Calls Tryz.prog 7 #[.slice (some ⟨w.heap.size, 0, none⟩) 1 1, .slice none 0 0] (w.alloc (.cells #[.string ⟨#[97]⟩, .int .i64 1, .int .i64 0, .string ⟨#[97, 10, 98]⟩, .string ⟨#[]⟩] 42)) fun e w' => ∃ v, e = .returned (.tuple #[v, .int .i64 0]) ∧ Below (w.alloc (.cells #[.string ⟨#[97]⟩, .int .i64 1, .int .i64 0, .string ⟨#[97, 10, 98]⟩, .string ⟨#[]⟩] 42)).heap.size (w.alloc (.cells #[.string ⟨#[97]⟩, .int .i64 1, .int .i64 0, .string ⟨#[97, 10, 98]⟩, .string ⟨#[]⟩] 42)) w' ∧ MadeSaid (w.alloc (.cells #[.string ⟨#[97]⟩, .int .i64 1, .int .i64 0, .string ⟨#[97, 10, 98]⟩, .string ⟨#[]⟩] 42)).heap.size w' [anchX] (0, anchP) v := by
    have h := plan_Make_good (some ⟨w.heap.size, 0, none⟩) none 1 0 [anchX] [] _ (hg.below hal) hit (fun i x hx => by simp at hx) (by decide) anch_chk (by intro x hx; simp at hx; subst hx; decide) (by simp) (by simp)
    rw [anch_parts] at h
    exact h
  have HAL := Lib.hid hal
  clear hal hit
  go_enter Tryz.func4, Tryz.ntmps4
  go_wp2_with (go_at_call 7; with_reducible refine hmk.mono ?_)
  rintro e w1 ⟨v, rfl, hb1, hm1, _⟩
  obtain ⟨g, cap, vf, vp, rfl, _, hf, hp⟩ := hm1 rfl
  obtain ⟨Fo, cf, rfl⟩ := slice_of hf
  have hpl : anchP.length = 2 := rfl
  rw [hpl] at hp
  obtain ⟨gp, cp, cur, rfl, _⟩ := hp.2.resolve_left (by rintro ⟨_, b⟩; omega)
  have k0 := own_cells hp (j := 0) (u := .int .i64 0) rfl
  have k1 := own_cells hp (j := 1) (u := .int .i64 1) rfl
  have k2 := own_cells hp (j := 2) (u := .string ⟨#[97, 10]⟩) rfl
  have k3 := own_cells hp (j := 3) (u := .int .i64 0) rfl
  have k4 := own_cells hp (j := 4) (u := .int .i64 3) rfl
  have k5 := own_cells hp (j := 5) (u := .string ⟨#[98]⟩) rfl
  have HB1 := Lib.hid (HAL.out.trans (hb1.mono HAL.out.size))
  have hg1 : gp < w1.heap.size := (hp.lt gp rfl).2
  clear hp hf hb1 hm1 hmk
  go_wp2
  go_ret
  exact ⟨rfl, HB1.out.alloc HB1.out.size _⟩
end Go.Proofs.YtomckoldfdeidaaGreatDoor

/- the statement PlanMakes: its walk. -/
namespace Go.Proofs.YtomckoldfdeidaaGreatDoor
open Go.RowKit

theorem slice_of2 {w : World} {B : Nat} {T : TypeId} {size n : Nat} {v : Value} {xs : List Value} (h : w.ownsRow B T size v n xs) : ∃ (A : Option Addr) (c : Nat), v = .slice A n c ∧ n ≤ c := by
  rcases h.2 with ⟨a, b⟩ | ⟨g, cap, cur, a, hl, hg, q⟩
  · exact ⟨none, 0, by rw [a, b], by omega⟩
  · exact ⟨_, _, a, q.1⟩
theorem items_row {w : World} {B n c : Nat} {T : TypeId} {A : Option Addr} {xs : List It} (h : w.ownsRow B T 5 (.slice A n c) n (itemCells xs)) (hn : n = xs.length) (hl : n ≤ 1000000) : ItemsAt w A xs := by
  rcases h.2 with ⟨a, b⟩ | ⟨g, cap, cur, a, q⟩
  · refine ⟨by omega, fun i x hx => ?_⟩
    have := (List.getElem?_eq_some_iff.1 hx).1
    omega
  · injection a with a1 a2 a3
    subst a1; subst a3
    exact row_items h (by omega)
def NatsAt (w : World) (A : Option Addr) (l : List Nat) : Prop := ∀ (i x : Nat), l[i]? = some x → ∃ a, A = some a ∧ w.cell? (a.add i) = some (.int .i64 (x : Nat))
theorem nats_row {w : World} {B n c : Nat} {T : TypeId} {A : Option Addr} {l : List Nat} (h : w.ownsRow B T 1 (.slice A n c) n (intCells l)) (hn : n = l.length) : NatsAt w A l := by
  intro i x hx
  rcases h.2 with ⟨a, b⟩ | ⟨g, cap, cur, a, q⟩
  · have := (List.getElem?_eq_some_iff.1 hx).1
    omega
  · injection a with a1 a2 a3
    subst a1
    refine ⟨_, rfl, ?_⟩
    exact h.cells (g := g) rfl i _ (by unfold intCells; rw [List.getElem?_map, hx]; rfl)
def PtAt (w : World) (a : Addr) (p : Pt) : Prop := w.cell? a = some (.int .i64 p.file) ∧ w.cell? ⟨a.block, a.off + 1, none⟩ = some (.int .i64 p.way) ∧ w.cell? ⟨a.block, a.off + 2, none⟩ = some (.string ⟨p.text.toArray⟩)
def PtsAt (w : World) (A : Option Addr) (ps : List Pt) : Prop := ∀ i p, ps[i]? = some p → ∃ a, A = some a ∧ PtAt w (a.add (i * 3)) p
theorem partCells_get {ps : List Pt} {i : Nat} {p : Pt} (h : ps[i]? = some p) (j : Nat) (hj : j < 3) : (partCells ps)[i * 3 + j]? = p.cells[j]? := by
  induction ps generalizing i with
  | nil => simp at h
  | cons y r ih =>
    have e : partCells (y :: r) = y.cells ++ partCells r := by simp [partCells]
    have hl : y.cells.length = 3 := rfl
    rw [e]
    cases i with
    | zero => simp at h; subst h; rw [List.getElem?_append_left (by omega)]; simp
    | succ i =>
      rw [List.getElem?_append_right (by omega), hl, show (i + 1) * 3 + j - 3 = i * 3 + j by omega]
      exact ih (by simpa using h)
theorem pts_row {w : World} {B n c : Nat} {T : TypeId} {A : Option Addr} {ps : List Pt} (h : w.ownsRow B T 3 (.slice A n c) n (partCells ps)) (hn : n = ps.length) : PtsAt w A ps := by
  intro i p hx
  rcases h.2 with ⟨a, b⟩ | ⟨g, cap, cur, a, q⟩
  · have := (List.getElem?_eq_some_iff.1 hx).1
    omega
  · injection a with a1 a2 a3
    subst a1; subst a3
    refine ⟨_, rfl, ?_⟩
    have e0 : (⟨g, 0, none⟩ : Addr).add (i * 3) = ⟨g, i * 3, none⟩ := by unfold Addr.add; split <;> simp_all
    rw [e0]
    have c := fun j hj u hu => own_cells h (j := i * 3 + j) (u := u) ((partCells_get hx j hj).trans hu)
    exact ⟨c 0 (by decide) _ rfl, c 1 (by decide) _ rfl, c 2 (by decide) _ rfl⟩
theorem NatsAt.below {B : Nat} {w w' : World} {A : Option Addr} {l : List Nat} (h : NatsAt w A l) (hB : w.heap.size ≤ B) (hb : Below B w w') : NatsAt w' A l := by
  intro i x hx
  obtain ⟨a, ha, hc⟩ := h i x hx
  exact ⟨a, ha, (hb.cell (by have := World.block_lt_of_cell? w _ hc; omega)).trans hc⟩
theorem PtsAt.below {B : Nat} {w w' : World} {A : Option Addr} {ps : List Pt} (h : PtsAt w A ps) (hB : w.heap.size ≤ B) (hb : Below B w w') : PtsAt w' A ps := by
  intro i p hx
  obtain ⟨a, ha, h0, h1, h2⟩ := h i p hx
  have l := World.block_lt_of_cell? w _ h0
  exact ⟨a, ha, (hb.cell (by omega)).trans h0, (hb.cell (p := ⟨_, _, none⟩) (by show (a.add (i * 3)).block < B; omega)).trans h1, (hb.cell (p := ⟨_, _, none⟩) (by show (a.add (i * 3)).block < B; omega)).trans h2⟩

/-- What the statement's arguments are. -/
structure Arg (w : World) (A W : Option Addr) (n nw : Nat) (xs : List It) (ways : List Int) : Prop where
  glob : Glob w
  items : ItemsAt w A xs
  ints : IntsAt w W ways
  hn : n = xs.length
  hnw : nw = ways.length
  len : ∀ x ∈ xs, x.path.size ≤ 140737488355328 ∧ x.data.size ≤ 140737488355328 ∧ x.same.size ≤ 140737488355328
  big : nw ≤ 9223372036854775807
theorem Arg.below {w w' : World} {A W : Option Addr} {n nw : Nat} {xs : List It} {ways : List Int} (h : Arg w A W n nw xs ways) (hb : Below w.heap.size w w') : Arg w' A W n nw xs ways :=
  ⟨h.glob.below hb, h.items.below (Nat.le_refl _) hb, h.ints.below (Nat.le_refl _) hb, h.hn, h.hnw, h.len, h.big⟩

theorem law_short (A W : Option Addr) (n c nw : Nat) (xs : List It) (ways : List Int) (w : World) (h : Arg w A W n nw xs ways) :
    Calls Tryz.prog 5 #[.slice A n c] w fun e w' => e = .returned (.bool (shortB xs 20 50000)) ∧ Below w.heap.size w w' := by
  have hs := made_Short A n c xs 20 50000 w h.hn (by omega) (by omega) h.len h.items
  rw [show ((20 : Nat) : Int) = 20 from rfl, show ((50000 : Nat) : Int) = 50000 from rfl] at hs
  go_enter Tryz.func5, Tryz.ntmps5
  go_wp2_with (go_at_call 11; with_reducible refine hs.mono ?_)
  rintro e w1 ⟨rfl, hb1⟩
  go_wp2
  go_ret
  exact ⟨rfl, hb1⟩

set_option maxRecDepth 100000 in
set_option maxHeartbeats 3200000 in
theorem law_far (A W : Option Addr) (n c nw cw : Nat) (xs : List It) (ways : List Int) (w : World) (h : Arg w A W n nw xs ways) (hf : shortB xs 20 50000 = false ∨ 6 < nw) :
    Calls Tryz.prog 3 #[.slice A n c, .slice W nw cw] w fun e w' => e = .returned (.bool true) ∧ Below w.heap.size w w' := by
  have ha := law_anchor w h.glob
  have hs := fun w1 hb => law_short A W n c nw xs ways w1 (h.below hb)
  have HS := Lib.hid hs; have H := Lib.hid h
  have hbig := h.big
  clear hs h
  cases hq : shortB xs 20 50000
  · rw [hq] at HS
    clear hf hq
    go_enter Tryz.func3, Tryz.ntmps3
    go_wp2_with (go_at_call 4; (with_reducible refine ha.mono ?_); rintro e w1 ⟨rfl, hb1⟩)
    go_wp2_with (go_at_call 5; (with_reducible refine (HS.out _ hb1).mono ?_); rintro e w2 ⟨rfl, hb2⟩)
    go_wp2
    go_ret
    exact ⟨rfl, hb1.trans (hb2.mono hb1.size)⟩
  · rw [hq] at HS hf
    have h6 : 6 < nw := hf.resolve_left (by simp)
    have h6' : decide ((6 : Int) < (nw : Int)) = true := by rw [decide_eq_true_eq]; omega
    clear hf hq
    go_enter Tryz.func3, Tryz.ntmps3
    go_wp2_with (go_at_call 4; (with_reducible refine ha.mono ?_); rintro e w1 ⟨rfl, hb1⟩)
    go_wp2_with (go_at_call 5; (with_reducible refine (HS.out _ hb1).mono ?_); rintro e w2 ⟨rfl, hb2⟩)
    go_wp2
    go_ret
    exact ⟨rfl, hb1.trans (hb2.mono hb1.size)⟩

/-- A tree that is short. -/
theorem short_all {xs : List It} (h : shortB xs 20 50000 = true) : xs.length ≤ 20 ∧ ∀ x ∈ xs, x.path.size ≤ 50000 ∧ x.data.size ≤ 50000 ∧ x.same.size ≤ 50000 := by
  unfold shortB at h
  simp only [Bool.and_eq_true, decide_eq_true_eq] at h
  refine ⟨h.2, fun x hx => ?_⟩
  have := sumI_mem hx
  unfold sizeI at this
  omega

set_option maxRecDepth 100000 in
set_option maxHeartbeats 3200000 in
theorem law_bad (A W : Option Addr) (n c nw cw : Nat) (xs : List It) (ways : List Int) (w : World) (h : Arg w A W n nw xs ways) (hs : shortB xs 20 50000 = true) (h6 : nw ≤ 6) (hbad : (chkE xs).1 ≠ 0) :
    Calls Tryz.prog 3 #[.slice A n c, .slice W nw cw] w fun e w' => e = .returned (.bool true) ∧ Below w.heap.size w w' := by
  obtain ⟨hx20, hall⟩ := short_all hs
  have ha := law_anchor w h.glob
  have hsh := fun w1 hb => law_short A W n c nw xs ways w1 (h.below hb)
  rw [hs] at hsh
  have hn20 : n ≤ 20 := by rw [h.hn]; exact hx20
  have hit := fun w1 (hb : Below w.heap.size w w1) => made_Items A n c xs w1 h.hn (by omega) (h.items.below (Nat.le_refl _) hb)
  have hmk := fun w1 (hb : Below w.heap.size w w1) => plan_Make_bad A W c cw xs ways w1 (h.glob.below hb) (h.items.below (Nat.le_refl _) hb) hbad
  have hchk := fun w1 (AI : Option Addr) (cI : Nat) (hc : n ≤ cI) (hI : ItemsAt w1 AI xs) => ref_Check AI n cI xs w1 h.hn hc (fun x hx => by have := hall x hx; omega) hI
  rw [← h.hn, ← h.hnw] at hmk
  rw [refE_chk] at hchk
  obtain ⟨er, her⟩ : ∃ er, er = (chkE xs).1 := ⟨_, rfl⟩
  obtain ⟨e2, he2⟩ : ∃ e2, e2 = (chkE xs).2 := ⟨_, rfl⟩
  rw [← her] at hmk hchk hbad
  rw [← he2] at hchk
  have hne : (er != 0) = true := by rw [bne_iff_ne]; exact hbad
  have hne0 : (er == 0) = false := by rw [beq_eq_false_iff_ne]; exact hbad
  have h6' : decide ((6 : Int) < (nw : Int)) = false := by rw [decide_eq_false_iff_not]; omega
  have HSH := Lib.hid hsh; have HIT := Lib.hid hit; have HMK := Lib.hid hmk; have HCHK := Lib.hid hchk
  have hnx := h.hn
  have HNX := Lib.hid hnx
  clear hsh hit hmk hchk her he2 hall hs hbad h hnx
  go_enter Tryz.func3, Tryz.ntmps3
  go_wp2_with (go_at_call 4; (with_reducible refine ha.mono ?_); rintro e w1 ⟨rfl, hb1⟩)
  go_wp2_with (go_at_call 5; (with_reducible refine (HSH.out _ hb1).mono ?_); rintro e w2 ⟨rfl, hb2⟩)
  have hb12 := hb1.trans (hb2.mono hb1.size)
  go_wp2_with (go_at_call 6; with_reducible refine (HIT.out _ hb12).mono ?_)
  rintro e w3 ⟨v, rfl, hrow, hb3⟩
  rw [← HNX.out] at hrow
  obtain ⟨AI, cI, rfl, hcI⟩ := slice_of2 hrow
  have hI3 := items_row hrow HNX.out (by omega)
  have hb13 := hb12.trans (hb3.mono hb12.size)
  go_wp2_with (go_at_call 7; with_reducible refine (HMK.out _ hb13).mono ?_)
  rintro e w4 ⟨rfl, hb4⟩
  have hI4 := hI3.below (Nat.le_refl _) (hb4.alloc (by exact hb4.size) (.cells #[.slice none 0 0, .slice none 0 0, .slice none 0 0] 31))
  have hI5 := HCHK.out _ AI cI hcI hI4
  have hbk4 : (w4.alloc (.cells #[.slice none 0 0, .slice none 0 0, .slice none 0 0] 31)).heap[w4.heap.size]? = some (.cells #[.slice none 0 0, .slice none 0 0, .slice none 0 0] 31 (0, 0)) := (MapKept.heap_alloc w4 _).1
  have HBK4 := Lib.hid hbk4
  clear hbk4 hrow hI3 hI4
  go_wp2_with (go_at_call 8; with_reducible refine hI5.mono ?_)
  rintro e w5 ⟨rfl, hb5⟩
  have hbk5 := (hb5.block w4.heap.size (by simp)).trans HBK4.out
  have k0 : w5.cell? ⟨w4.heap.size, 0, none⟩ = some (.slice none 0 0) := by rw [Lib.cell_of_heap hbk5]; rfl
  have k1 : w5.cell? ⟨w4.heap.size, 1, none⟩ = some (.slice none 0 0) := by rw [Lib.cell_of_heap hbk5]; rfl
  have k2 : w5.cell? ⟨w4.heap.size, 2, none⟩ = some (.slice none 0 0) := by rw [Lib.cell_of_heap hbk5]; rfl
  have hb14 := hb13.trans (hb4.mono hb13.size)
  have hfin : Below w.heap.size w w5 := (hb14.alloc (by exact hb14.size) _).trans (hb5.mono (by have := hb14.size; simp; omega))
  have HF := Lib.hid hfin
  clear hbk5 hfin
  go_wp2
  go_ret
  exact ⟨rfl, HF.out⟩
end Go.Proofs.YtomckoldfdeidaaGreatDoor

/- the statement PlanMakes: its walk where the checker lets the tree pass. -/
namespace Go.Proofs.YtomckoldfdeidaaGreatDoor
open Go.RowKit

theorem chk_ok {xs : List It} (h : (chkE xs).1 = 0) : xs ≠ [] ∧ chkE xs = (0, 0) := by
  refine ⟨fun e => by rw [e] at h; exact absurd h (by decide), ?_⟩
  have key : ∀ (xs : List It) (kf : ByteArray → Option Int) (ff : ByteArray → Option It) (last : ByteArray) (k : Nat), (chkFrom kf ff last xs k).1 = 0 → chkFrom kf ff last xs k = (0, 0) := by
    intro xs
    induction xs with
    | nil => intro _ _ _ _ _; rfl
    | cons x r ih =>
      intro kf ff last k h
      unfold chkFrom at h ⊢
      by_cases h0 : addE kf ff last x ≠ 0
      · rw [if_pos h0] at h; exact absurd h h0
      · rw [if_neg h0] at h ⊢; exact ih _ _ _ _ h
  unfold chkE at h ⊢
  by_cases h0 : xs.length = 0
  · rw [if_pos h0] at h; exact absurd h (by decide)
  · rw [if_neg h0] at h ⊢
    by_cases h1 : 4096 < xs.length
    · rw [if_pos h1] at h; exact absurd h (by decide)
    · rw [if_neg h1] at h ⊢; exact key _ _ _ _ _ h

/-- What lies there in the statement's last loops. -/
structure Fin (W wr : World) (pb : Nat) (g : Addr) (ct n : Nat) (Fo Po A Oo Ro : Option Addr) (m cf q cp : Nat) (xs : List It) (own : List Nat) (ps : List Pt) : Prop where
  box : wr.heap[pb]? = some (.cells #[.slice (some g) n ct, .slice Fo m cf, .slice Po q cp] 31 (0, 0))
  t1 : ItemsAt wr (some g) xs
  t2 : ItemsAt wr A xs
  f1 : NatsAt wr Fo own
  f2 : NatsAt wr Oo own
  p1 : PtsAt wr Po ps
  p2 : PtsAt wr Ro ps
  bel : Below W.heap.size W wr
theorem Fin.drewN {W wr : World} {pb : Nat} {g : Addr} {ct n : Nat} {Fo Po A Oo Ro : Option Addr} {m cf q cp : Nat} {xs : List It} {own : List Nat} {ps : List Pt} (h : Fin W wr pb g ct n Fo Po A Oo Ro m cf q cp xs own ps) (k : Nat) : Fin W (wr.drewN k) pb g ct n Fo Po A Oo Ro m cf q cp xs own ps :=
  ⟨h.box, h.t1, h.t2, h.f1, h.f2, h.p1, h.p2, belowN h.bel k⟩

set_option maxRecDepth 100000 in
set_option maxHeartbeats 6400000 in
theorem law_err (A W : Option Addr) (n c nw cw : Nat) (xs : List It) (ways : List Int) (w : World) (h : Arg w A W n nw xs ways) (hs : shortB xs 20 50000 = true) (h6 : nw ≤ 6) (hok : (chkE xs).1 = 0) (hre : (partsFrom xs (wayS ways) 0 (ownE xs)).1 ≠ 0) :
    Calls Tryz.prog 3 #[.slice A n c, .slice W nw cw] w fun e w' => e = .returned (.bool true) ∧ Below w.heap.size w w' := by
  obtain ⟨hx20, hall⟩ := short_all hs
  obtain ⟨hxne, hc00⟩ := chk_ok hok
  have ha := law_anchor w h.glob
  have hsh := fun w1 hb => law_short A W n c nw xs ways w1 (h.below hb)
  rw [hs] at hsh
  have hn20 : n ≤ 20 := by rw [h.hn]; exact hx20
  have hdat : ∀ x ∈ xs, x.data.size ≤ 200000 := fun x hx => by have := hall x hx; omega
  have hit := fun w1 (hb : Below w.heap.size w w1) => made_Items A n c xs w1 h.hn (by omega) (h.items.below (Nat.le_refl _) hb)
  have hmk := fun w1 (hb : Below w.heap.size w w1) => plan_Make_good A W c cw xs ways w1 (h.glob.below hb) (h.items.below (Nat.le_refl _) hb) (h.ints.below (Nat.le_refl _) hb) (by have := h.hnw; omega) hok hdat hxne (by omega)
  have hchk := fun w1 (AI : Option Addr) (cI : Nat) (hc : n ≤ cI) (hI : ItemsAt w1 AI xs) => ref_Check AI n cI xs w1 h.hn hc (fun x hx => by have := hall x hx; omega) hI
  have hprt := fun w1 (AI : Option Addr) (cI : Nat) (hI : ItemsAt w1 AI xs) (hb : Below w.heap.size w w1) => ref_Parts AI W n cI nw cw xs ways w1 h.hn (by omega) h.hnw (by omega) hI (h.ints.below (Nat.le_refl _) hb) hdat
  rw [← h.hn, ← h.hnw] at hmk
  rw [refE_chk, hc00] at hchk
  have hA := fun w1 (hb : Below w.heap.size w w1) => h.items.below (Nat.le_refl _) hb
  obtain ⟨res, hres⟩ : ∃ res, res = partsFrom xs (wayS ways) 0 (ownE xs) := ⟨_, rfl⟩
  rw [← hres] at hmk hprt hre
  have h6' : decide ((6 : Int) < (nw : Int)) = false := by rw [decide_eq_false_iff_not]; omega
  have HSH := Lib.hid hsh; have HIT := Lib.hid hit; have HMK := Lib.hid hmk; have HCHK := Lib.hid hchk; have HPRT := Lib.hid hprt; have HA := Lib.hid hA
  have hnx := h.hn
  have HNX := Lib.hid hnx
  obtain ⟨er, her⟩ : ∃ er, er = res.1 := ⟨_, rfl⟩
  rw [← her] at hre
  have hne : (er != 0) = true := by rw [bne_iff_ne]; exact hre
  have HER := Lib.hid her; have HRE := Lib.hid hre
  clear hre her
  clear hsh hit hmk hchk hprt hA hres hall hs hok h hnx hdat hxne hc00
  go_enter Tryz.func3, Tryz.ntmps3
  go_wp2_with (go_at_call 4; (with_reducible refine ha.mono ?_); rintro e w1 ⟨rfl, hb1⟩)
  go_wp2_with (go_at_call 5; (with_reducible refine (HSH.out _ hb1).mono ?_); rintro e w2 ⟨rfl, hb2⟩)
  have hb12 := hb1.trans (hb2.mono hb1.size)
  go_wp2_with (go_at_call 6; with_reducible refine (HIT.out _ hb12).mono ?_)
  rintro e w3 ⟨v, rfl, hrow, hb3⟩
  rw [← HNX.out] at hrow
  obtain ⟨AI, cI, rfl, hcI⟩ := slice_of2 hrow
  have hI3 := items_row hrow HNX.out (by omega)
  have hb13 := hb12.trans (hb3.mono hb12.size)
  go_wp2_with (go_at_call 7; with_reducible refine (HMK.out _ hb13).mono ?_)
  rintro e w4 ⟨v, rfl, hb4, hm4⟩
  obtain rfl := hm4.2 (by rw [← HER.out]; exact HRE.out)
  rw [← HER.out]
  have hI4 := hI3.below (Nat.le_refl _) (hb4.alloc (by exact hb4.size) (.cells #[.slice none 0 0, .slice none 0 0, .slice none 0 0] 31))
  have hI5 := HCHK.out _ AI cI hcI hI4
  have HI4 := Lib.hid hI4
  have hbk4 : (w4.alloc (.cells #[.slice none 0 0, .slice none 0 0, .slice none 0 0] 31)).heap[w4.heap.size]? = some (.cells #[.slice none 0 0, .slice none 0 0, .slice none 0 0] 31 (0, 0)) := (MapKept.heap_alloc w4 _).1
  have HBK4 := Lib.hid hbk4
  clear hbk4 hrow hI3 hI4 hm4
  go_wp2_with (go_at_call 8; (with_reducible refine hI5.mono ?_); rintro e w5 ⟨rfl, hb5⟩)
  have hb14 := hb13.trans (hb4.mono hb13.size)
  have hfin : Below w.heap.size w w5 := (hb14.alloc (by exact hb14.size) _).trans (hb5.mono (by have := hb14.size; simp; omega))
  have hpr5 := HPRT.out w5 AI cI (HI4.out.below (Nat.le_refl _) hb5) hfin
  rw [← HER.out] at hpr5
  have hbk5 := (hb5.block w4.heap.size (by simp)).trans HBK4.out
  have HBK5 := Lib.hid hbk5
  have hlt5 := blk_lt hbk5
  clear hbk5 hI5
  go_wp2_with (go_at_call 9; with_reducible refine hpr5.mono ?_)
  rintro e w6 ⟨v, rfl, hb6, _⟩
  have hbk6 := (hb6.block w4.heap.size hlt5).trans HBK5.out
  have k0 : w6.cell? ⟨w4.heap.size, 0, none⟩ = some (.slice none 0 0) := by rw [Lib.cell_of_heap hbk6]; rfl
  have k1 : w6.cell? ⟨w4.heap.size, 1, none⟩ = some (.slice none 0 0) := by rw [Lib.cell_of_heap hbk6]; rfl
  have k2 : w6.cell? ⟨w4.heap.size, 2, none⟩ = some (.slice none 0 0) := by rw [Lib.cell_of_heap hbk6]; rfl
  have hfin6 := hfin.trans (hb6.mono hfin.size)
  have HF := Lib.hid hfin6
  clear hbk6 hfin6 hpr5
  go_wp2
  go_ret
  exact ⟨rfl, HF.out⟩

end Go.Proofs.YtomckoldfdeidaaGreatDoor

/- the statement PlanMakes: its walk where there are parts. -/
namespace Go.Proofs.YtomckoldfdeidaaGreatDoor
open Go.RowKit

theorem partsFrom_len (xs : List It) (ws : List Int) (B : Nat) (hB : ∀ x ∈ xs, x.data.size ≤ B) : ∀ (l : List Nat) (k : Nat), (partsFrom xs ws k l).2.length ≤ l.length * B
  | [], _ => by simp [partsFrom]
  | i :: r, k => by
    have hd : (datE xs i).size ≤ B := by
      unfold datE
      cases h : xs[i]? with
      | none => exact Nat.zero_le _
      | some x => exact hB x (List.mem_of_getElem? h)
    have h1 := fileE_len (k : Int) ws _ (datE xs i) rfl
    have h2 := partsFrom_len xs ws B hB r (k + 1)
    unfold partsFrom
    split
    · simp
    · simp only [List.length_append, List.length_cons]
      rw [Nat.succ_mul]; omega
theorem xs_len_own (xs : List It) : (ownE xs).length ≤ xs.length := by unfold ownE; exact ownK_len xs xs.length

set_option maxRecDepth 100000 in
set_option maxHeartbeats 6400000 in
theorem law_good (A W : Option Addr) (n c nw cw : Nat) (xs : List It) (ways : List Int) (w : World) (h : Arg w A W n nw xs ways) (hs : shortB xs 20 50000 = true) (h6 : nw ≤ 6) (hok : (chkE xs).1 = 0) (hre : (partsFrom xs (wayS ways) 0 (ownE xs)).1 = 0) :
    Calls Tryz.prog 3 #[.slice A n c, .slice W nw cw] w fun e w' => e = .returned (.bool true) ∧ Below w.heap.size w w' := by
  obtain ⟨hx20, hall⟩ := short_all hs
  obtain ⟨hxne, hc00⟩ := chk_ok hok
  have ha := law_anchor w h.glob
  have hsh := fun w1 hb => law_short A W n c nw xs ways w1 (h.below hb)
  rw [hs] at hsh
  have hn20 : n ≤ 20 := by rw [h.hn]; exact hx20
  have hdat : ∀ x ∈ xs, x.data.size ≤ 200000 := fun x hx => by have := hall x hx; omega
  have hit := fun w1 (hb : Below w.heap.size w w1) => made_Items A n c xs w1 h.hn (by omega) (h.items.below (Nat.le_refl _) hb)
  have hmk := fun w1 (hb : Below w.heap.size w w1) => plan_Make_good A W c cw xs ways w1 (h.glob.below hb) (h.items.below (Nat.le_refl _) hb) (h.ints.below (Nat.le_refl _) hb) (by have := h.hnw; omega) hok hdat hxne (by omega)
  have hchk := fun w1 (AI : Option Addr) (cI : Nat) (hc : n ≤ cI) (hI : ItemsAt w1 AI xs) => ref_Check AI n cI xs w1 h.hn hc (fun x hx => by have := hall x hx; omega) hI
  have hprt := fun w1 (AI : Option Addr) (cI : Nat) (hI : ItemsAt w1 AI xs) (hb : Below w.heap.size w w1) => ref_Parts AI W n cI nw cw xs ways w1 h.hn (by omega) h.hnw (by omega) hI (h.ints.below (Nat.le_refl _) hb) hdat
  rw [← h.hn, ← h.hnw] at hmk
  rw [refE_chk, hc00] at hchk
  have hA := fun w1 (hb : Below w.heap.size w w1) => h.items.below (Nat.le_refl _) hb
  have hql : (partsFrom xs (wayS ways) 0 (ownE xs)).2.length ≤ 1000000 := by
    have h1 := partsFrom_len xs (wayS ways) 50000 (fun x hx => (hall x hx).2.1) (ownE xs) 0
    have h2 := xs_len_own xs
    omega
  obtain ⟨res, hres⟩ : ∃ res, res = partsFrom xs (wayS ways) 0 (ownE xs) := ⟨_, rfl⟩
  rw [← hres] at hmk hprt hre hql
  have HQL := Lib.hid hql
  clear hql
  have h6' : decide ((6 : Int) < (nw : Int)) = false := by rw [decide_eq_false_iff_not]; omega
  have HSH := Lib.hid hsh; have HIT := Lib.hid hit; have HMK := Lib.hid hmk; have HCHK := Lib.hid hchk; have HPRT := Lib.hid hprt; have HA := Lib.hid hA
  have hnx := h.hn
  have HNX := Lib.hid hnx
  have HRE := Lib.hid hre
  have how := fun w1 (AI : Option Addr) (cI : Nat) (hI : ItemsAt w1 AI xs) => ref_Own AI n cI xs w1 h.hn (by omega) hI
  have HOW := Lib.hid how
  clear hre how
  clear hsh hit hmk hchk hprt hA hres hall hs hok h hnx hdat hxne hc00
  go_enter Tryz.func3, Tryz.ntmps3
  go_wp2_with (go_at_call 4; (with_reducible refine ha.mono ?_); rintro e w1 ⟨rfl, hb1⟩)
  go_wp2_with (go_at_call 5; (with_reducible refine (HSH.out _ hb1).mono ?_); rintro e w2 ⟨rfl, hb2⟩)
  have hb12 := hb1.trans (hb2.mono hb1.size)
  go_wp2_with (go_at_call 6; with_reducible refine (HIT.out _ hb12).mono ?_)
  rintro e w3 ⟨v, rfl, hrow, hb3⟩
  rw [← HNX.out] at hrow
  obtain ⟨AI, cI, rfl, hcI⟩ := slice_of2 hrow
  have hI3 := items_row hrow HNX.out (by omega)
  have hb13 := hb12.trans (hb3.mono hb12.size)
  go_wp2_with (go_at_call 7; with_reducible refine (HMK.out _ hb13).mono ?_)
  rintro e w4 ⟨v, rfl, hb4, hm4⟩
  obtain ⟨g0, ct, vf, vp, rfl, ht4, hf4, hp4⟩ := hm4.1 HRE.out
  obtain ⟨g, hg0⟩ : ∃ g : Addr, g = ⟨g0, 0, none⟩ := ⟨_, rfl⟩
  rw [← hg0] at ht4 ⊢
  clear hg0
  rw [← HNX.out]
  obtain ⟨m, hm⟩ : ∃ m, m = (ownE xs).length := ⟨_, rfl⟩
  obtain ⟨q, hq⟩ : ∃ q, q = res.2.length := ⟨_, rfl⟩
  rw [← hm] at hf4
  rw [← hq] at hp4
  obtain ⟨Fo, cf, rfl⟩ := slice_of hf4
  obtain ⟨Po, cp, rfl⟩ := slice_of hp4
  rw [HRE.out]
  have hF4 := nats_row hf4 hm
  have hP4 := pts_row hp4 hq
  have hq9 : q ≤ 1000000 := by rw [hq]; exact HQL.out
  have hm9 : m ≤ 20 := by rw [hm]; have := xs_len_own xs; have := HNX.out; omega
  obtain ⟨O, hO⟩ : ∃ O : Obj, O = .cells #[.slice (some g) n ct, .slice Fo m cf, .slice Po q cp] 31 := ⟨_, rfl⟩
  have hab : Below w4.heap.size w4 (w4.alloc O) := (Below.refl _ _).alloc (Nat.le_refl _) O
  have hI4 := (hI3.below (Nat.le_refl _) hb4).below (Nat.le_refl _) hab
  have hI5 := HCHK.out _ AI cI hcI hI4
  have HI4 := Lib.hid hI4; have HT4 := Lib.hid ht4; have HF4 := Lib.hid hF4; have HP4 := Lib.hid hP4; have HM := Lib.hid hm; have HQ := Lib.hid hq
  have hbk4 : (w4.alloc O).heap[w4.heap.size]? = some (.cells #[.slice (some g) n ct, .slice Fo m cf, .slice Po q cp] 31 (0, 0)) := by rw [hO]; exact (MapKept.heap_alloc w4 _).1
  have HBK4 := Lib.hid hbk4; have HAB := Lib.hid hab
  rw [hO] at hI5 HAB HBK4 HI4
  clear hbk4 hrow hI3 hI4 hm4 ht4 hf4 hp4 hF4 hP4 hm hq hab hO
  go_wp2_with (go_at_call 8; (with_reducible refine hI5.mono ?_); rintro e w5 ⟨rfl, hb5⟩)
  have hb14 := hb13.trans (hb4.mono hb13.size)
  have hb45 : Below w4.heap.size w4 w5 := HAB.out.trans (hb5.mono HAB.out.size)
  have hfin : Below w.heap.size w w5 := hb14.trans (hb45.mono hb14.size)
  have hpr5 := HPRT.out w5 AI cI (HI4.out.below (Nat.le_refl _) hb5) hfin
  rw [HRE.out] at hpr5
  have hbk5 := (hb5.block w4.heap.size (by simp)).trans HBK4.out
  have HBK5 := Lib.hid hbk5; have HI5 := Lib.hid (HI4.out.below (Nat.le_refl _) hb5)
  have hlt5 := blk_lt hbk5
  clear hbk5 hI5
  go_wp2_with (go_at_call 9; with_reducible refine hpr5.mono ?_)
  rintro e w6 ⟨v, rfl, hb6, hv6⟩
  have hr6 := hv6.1 HRE.out
  rw [← HQ.out] at hr6
  obtain ⟨Ro, cr, rfl⟩ := slice_of hr6
  have hR6 := pts_row hr6 HQ.out
  have hbk6 := (hb6.block w4.heap.size hlt5).trans HBK5.out
  have HBK6 := Lib.hid hbk6; have HR6 := Lib.hid hR6
  have hlt6 := blk_lt hbk6
  have how6 := HOW.out w6 AI cI (HI5.out.below (Nat.le_refl _) hb6)
  clear hpr5 hv6 hr6 hR6 hbk6
  go_wp2_with (go_at_call 10; with_reducible refine how6.mono ?_)
  rintro e w7 ⟨v, rfl, hr7, hb7⟩
  rw [← HM.out] at hr7
  obtain ⟨Oo, co, rfl⟩ := slice_of hr7
  have hO7 := nats_row hr7 HM.out
  have hb46 := hb45.trans (hb6.mono hb45.size)
  have hb47 := hb46.trans (hb7.mono hb46.size)
  have hfin7 : Fin w w7 w4.heap.size g ct n Fo Po A Oo Ro m cf q cp xs (ownE xs) res.2 :=
    ⟨(hb7.block w4.heap.size hlt6).trans HBK6.out, HT4.out.below (Nat.le_refl _) hb47, HA.out _ (hb14.trans (hb47.mono hb14.size)), HF4.out.below (Nat.le_refl _) hb47, hO7, HP4.out.below (Nat.le_refl _) hb47, HR6.out.below (Nat.le_refl _) hb7, hb14.trans (hb47.mono hb14.size)⟩
  have k0 : w7.cell? ⟨w4.heap.size, 0, none⟩ = some (.slice (some g) n ct) := by rw [Lib.cell_of_heap hfin7.box]; rfl
  have k1 : w7.cell? ⟨w4.heap.size, 1, none⟩ = some (.slice Fo m cf) := by rw [Lib.cell_of_heap hfin7.box]; rfl
  have k2 : w7.cell? ⟨w4.heap.size, 2, none⟩ = some (.slice Po q cp) := by rw [Lib.cell_of_heap hfin7.box]; rfl
  have HFIN := Lib.hid hfin7
  clear how6 hr7 hO7 hfin7
  have m1 : ((n : Int) != (n : Int)) = false := by simp
  have m2 : ((m : Int) != (m : Int)) = false := by simp
  have m3 : ((q : Int) != (q : Int)) = false := by simp
  go_wp2
  go_loopw [95] (fun i wr => ∃ k : Nat, k ≤ n ∧ i = .int .i64 k ∧ Fin w wr w4.heap.size g ct n Fo Po A Oo Ro m cf q cp xs (ownE xs) res.2) (fun i _ => n - (intOf i).toNat)
  case atStart => exact ⟨0, Nat.zero_le _, rfl, HFIN.out⟩
  case round =>
    obtain ⟨k, hk, rfl, hfw⟩ := hrel
    have k0 : wr.cell? ⟨w4.heap.size, 0, none⟩ = some (.slice (some g) n ct) := by rw [Lib.cell_of_heap hfw.box]; rfl
    by_cases hlt : k < n
    · obtain ⟨x, hxk⟩ : ∃ x, xs[k]? = some x := ⟨_, List.getElem?_eq_getElem (by rw [← HNX.out]; exact hlt)⟩
      obtain ⟨a, rfl, q0, q1, q2, q3, q4⟩ := hfw.t2.2 k x hxk
      obtain ⟨a', ha', r0, r1, r2, r3, r4⟩ := hfw.t1.2 k x hxk
      obtain rfl : g = a' := Option.some.inj ha'
      have HFW := Lib.hid hfw
      clear hfw hxk
      go_wp2
      go_big_quiet (fail)
      go_wp2
      go_roundw
      case rel => exact ⟨k + 1, by omega, by go_num, HFW.out.drewN _⟩
      case measure => simp [intOf]; omega
    · have HFW := Lib.hid hfw
      clear hfw
      go_wp2
      go_loopw [111] (fun i wr => ∃ k : Nat, k ≤ m ∧ i = .int .i64 k ∧ Fin w wr w4.heap.size g ct n Fo Po A Oo Ro m cf q cp xs (ownE xs) res.2) (fun i _ => m - (intOf i).toNat)
      case atStart => exact ⟨0, Nat.zero_le _, rfl, HFW.out⟩
      case round =>
        obtain ⟨k2, hk2, rfl, hfw2⟩ := hrel
        have k1 : wr.cell? ⟨w4.heap.size, 1, none⟩ = some (.slice Fo m cf) := by rw [Lib.cell_of_heap hfw2.box]; rfl
        by_cases hlt2 : k2 < m
        · obtain ⟨x, hxk⟩ : ∃ x, (ownE xs)[k2]? = some x := ⟨_, List.getElem?_eq_getElem (by rw [← HM.out]; exact hlt2)⟩
          obtain ⟨a, rfl, q0⟩ := hfw2.f1 k2 x hxk
          obtain ⟨b, rfl, r0⟩ := hfw2.f2 k2 x hxk
          have HFW2 := Lib.hid hfw2
          clear hfw2 hxk
          go_wp2
          go_big_quiet (fail)
          go_wp2
          go_roundw
          case rel => exact ⟨k2 + 1, by omega, by go_num, HFW2.out.drewN _⟩
          case measure => simp [intOf]; omega
        · have HFW2 := Lib.hid hfw2
          clear hfw2
          go_wp2
          go_loopw [127] (fun i wr => ∃ k : Nat, k ≤ q ∧ i = .int .i64 k ∧ Fin w wr w4.heap.size g ct n Fo Po A Oo Ro m cf q cp xs (ownE xs) res.2) (fun i _ => q - (intOf i).toNat)
          case atStart => exact ⟨0, Nat.zero_le _, rfl, HFW2.out⟩
          case round =>
            obtain ⟨k3, hk3, rfl, hfw3⟩ := hrel
            have k2 : wr.cell? ⟨w4.heap.size, 2, none⟩ = some (.slice Po q cp) := by rw [Lib.cell_of_heap hfw3.box]; rfl
            by_cases hlt3 : k3 < q
            · obtain ⟨x, hxk⟩ : ∃ x, res.2[k3]? = some x := ⟨_, List.getElem?_eq_getElem (by rw [← HQ.out]; exact hlt3)⟩
              obtain ⟨a, rfl, q0, q1, q2⟩ := hfw3.p1 k3 x hxk
              obtain ⟨b, rfl, r0, r1, r2⟩ := hfw3.p2 k3 x hxk
              have HFW3 := Lib.hid hfw3
              clear hfw3 hxk
              go_wp2
              go_big_quiet (fail)
              go_wp2
              go_roundw
              case rel => exact ⟨k3 + 1, by omega, by go_num, HFW3.out.drewN _⟩
              case measure => simp [intOf]; omega
            · have HFW3 := Lib.hid hfw3
              clear hfw3
              go_wp2
              go_ret
              exact ⟨rfl, HFW3.out.bel⟩
end Go.Proofs.YtomckoldfdeidaaGreatDoor

/- the statement's arguments, opened: a tree as items, ways as numbers; a library's variable. -/
namespace Go.Proofs.YtomckoldfdeidaaGreatDoor
open Go.RowKit Go.ChangeShapes Go.WideShapes Go.Deep

theorem cells_int : Tryz.prog.cellsOf 3 = 1 := by kernel_rfl
theorem cells_item : Tryz.prog.cellsOf 42 = 5 := by kernel_rfl
theorem item_fields : ∃ fs : Array Field, Tryz.prog.underlying 42 = some (.struct fs) ∧ oneCellFields Tryz.prog fs = true ∧ fs.toList.map (·.type) = [9, 3, 3, 9, 9] :=
  ⟨_, Tryz.underlying42, by kernel_rfl, by kernel_rfl⟩

def It.datum {H : Type} (x : It) : DataW H := .agg [.lit (.string x.path.data.toList), .lit (.int .i64 x.kind), .lit (.int .i64 x.mode), .lit (.string x.data.data.toList), .lit (.string x.same.data.toList)]

section
variable {H : Type} {enc : TypeId × Value → H} {w : World} {base : Nat} {spare : Nat → Bool} {held : Bool}
theorem open_item {fuel : Nat} {a : Addr} {cs : List Value} {y : DataW H × List MemPlace} (hc : w.cells? base a 5 = some cs) (h : DataW.trod enc Tryz.prog w base spare held fuel 42 cs = some y) :
    ∃ x : It, ItemAt w a x ∧ y.1 = x.datum := by
  obtain ⟨fs, hfs, hone, hts⟩ := item_fields
  obtain ⟨ys, n, _, hy, hlen, hyl, hf⟩ := DataW.trod_struct hfs h
  rw [cells_item] at hlen
  obtain ⟨_, _, hat⟩ := World.cells?_some hc
  have hsz : fs.size = 5 := by have := congrArg List.length hts; simpa using this
  rw [hsz] at hyl
  have key : ∀ (j : Nat) (t : TypeId), j < 5 → (fs.toList.map (·.type))[j]? = some t → ∃ v, cs[j]? = some v ∧ DataW.trod enc Tryz.prog w base spare held n t [v] = ys[j]? := by
    intro j t hj ht
    rw [List.getElem?_map] at ht
    obtain ⟨f, hfj, rfl⟩ := Option.map_eq_some_iff.1 ht
    rw [Array.getElem?_toList] at hfj
    obtain ⟨ho, hk⟩ := hone_of hone j f hfj
    have h1 := hf j f hfj
    rw [ho, hk] at h1
    refine ⟨cs[j]'(by omega), List.getElem?_eq_getElem (by omega), ?_⟩
    have e : (cs.drop j).take 1 = [cs[j]'(by omega)] := by rw [List.drop_eq_getElem_cons (by omega)]; rfl
    rw [e] at h1
    exact h1
  rw [hts] at key
  match ys, hyl with
  | [y0, y1, y2, y3, y4], _ =>
    obtain ⟨v0, c0, t0⟩ := key 0 _ (by decide) rfl
    obtain ⟨v1, c1, t1⟩ := key 1 _ (by decide) rfl
    obtain ⟨v2, c2, t2⟩ := key 2 _ (by decide) rfl
    obtain ⟨v3, c3, t3⟩ := key 3 _ (by decide) rfl
    obtain ⟨v4, c4, t4⟩ := key 4 _ (by decide) rfl
    obtain ⟨s0, e0, x0, _⟩ := DataW.trod_string Tryz.underlying9 (x := y0) t0
    obtain ⟨k1, e1, x1, _⟩ := DataW.trod_int Tryz.underlying3 (x := y1) t1
    obtain ⟨k2, e2, x2, _⟩ := DataW.trod_int Tryz.underlying3 (x := y2) t2
    obtain ⟨s3, e3, x3, _⟩ := DataW.trod_string Tryz.underlying9 (x := y3) t3
    obtain ⟨s4, e4, x4, _⟩ := DataW.trod_string Tryz.underlying9 (x := y4) t4
    injection e0 with e0 _; injection e1 with e1 _; injection e2 with e2 _; injection e3 with e3 _; injection e4 with e4 _
    subst e0; subst e1; subst e2; subst e3; subst e4
    have ad : ∀ j, 0 < j → a.add j = ⟨a.block, a.off + j, none⟩ := by intro j hj; unfold Addr.add; rw [if_neg (by omega)]
    have a0 : a.add 0 = a := by unfold Addr.add; rw [if_pos rfl]
    have h0 := hat 0 (by decide)
    have h1 := hat 1 (by decide)
    have h2 := hat 2 (by decide)
    have h3 := hat 3 (by decide)
    have h4 := hat 4 (by decide)
    rw [a0, c0] at h0
    rw [ad 1 (by decide), c1] at h1
    rw [ad 2 (by decide), c2] at h2
    rw [ad 3 (by decide), c3] at h3
    rw [ad 4 (by decide), c4] at h4
    refine ⟨⟨s0, k1, k2, s3, s4⟩, ⟨h0, h1, h2, h3, h4⟩, ?_⟩
    rw [hy, x0, x1, x2, x3, x4]
    rfl

theorem mem_weightsAll {P : Program} {e : TypeId} {d : DataW H} {n : Nat} : ∀ {l : List (DataW H)}, d ∈ l → n ∈ d.weights P e → n ∈ DataW.weightsAll P e l
  | [], h, _ => by cases h
  | x :: r, h, hn => by
    unfold DataW.weightsAll
    rcases List.mem_cons.1 h with rfl | h
    · exact List.mem_append.2 (.inl hn)
    · exact List.mem_append.2 (.inr (mem_weightsAll h hn))
theorem item_weights (x : It) : x.path.size ∈ (x.datum (H := H)).weights Tryz.prog 42 ∧ x.data.size ∈ (x.datum (H := H)).weights Tryz.prog 42 ∧ x.same.size ∈ (x.datum (H := H)).weights Tryz.prog 42 := by
  obtain ⟨fs, hfs, _, hts⟩ := item_fields
  unfold It.datum DataW.weights
  rw [hfs]
  simp only [hts]
  simp [DataW.weightsEach, DataW.weights]

/-- A tree that came in: its items. -/
theorem open_tree {fuel : Nat} {A : Option Addr} {n c : Nat} {y : DataW H × List MemPlace} (h : DataW.trod enc Tryz.prog w base spare held fuel 23 [.slice A n c] = some y) :
    ∃ xs : List It, n = xs.length ∧ ItemsAt w A xs ∧ (∀ x ∈ xs, ∀ m ∈ (x.datum (H := H)).weights Tryz.prog 42, m ∈ y.1.weights Tryz.prog 23) := by
  rcases open_slice Tryz.underlying23 h with ⟨hcs, _⟩ | ⟨a, len, cap, m, k, D, Pl, hcs, hb, hl, hm, hmm, hy, hi⟩
  · injection hcs with e _
    injection e with e1 e2 e3
    subst e1; subst e2
    exact ⟨[], rfl, ⟨by decide, fun i x hx => by simp at hx⟩, fun x hx => by cases hx⟩
  · injection hcs with e _
    injection e with e1 e2 e3
    subst e1; subst e2; subst e3
    have hlm : n ≤ m := by rw [hmm]; split <;> omega
    rw [cells_item] at hi
    have each : ∀ i, i < n → ∃ x : It, ItemAt w (a.add (i * 5)) x ∧ D i = x.datum := by
      intro i hin
      obtain ⟨cs', hc, ht⟩ := hi i (by omega)
      exact open_item hc ht
    haveI : Inhabited It := ⟨⟨⟨#[]⟩, 0, 0, ⟨#[]⟩, ⟨#[]⟩⟩⟩
    obtain ⟨f, hf⟩ := choose_lt each
    refine ⟨(List.range n).map f, by simp, ⟨by simp; unfold maxLen at hm; omega, fun i x hx => ?_⟩, fun x hx q hq => ?_⟩
    · rw [List.getElem?_map] at hx
      obtain ⟨j, hj, rfl⟩ := Option.map_eq_some_iff.1 hx
      obtain ⟨hj1, hj2⟩ := List.getElem?_eq_some_iff.1 hj
      simp at hj1 hj2
      subst hj2
      exact ⟨a, rfl, (hf i hj1).1⟩
    · obtain ⟨i, hir, rfl⟩ := List.mem_map.1 hx
      have hin := List.mem_range.1 hir
      rw [hy]
      show q ∈ DataW.weights Tryz.prog 23 (.slice _ _)
      unfold DataW.weights
      rw [Tryz.underlying23]
      refine List.mem_cons_of_mem _ (List.mem_append.2 (.inl ?_))
      refine mem_weightsAll (d := D i) (List.mem_map.2 ⟨i, hir, rfl⟩) ?_
      rw [(hf i hin).2]
      exact hq

/-- Ways that came in: their numbers. -/
theorem open_ways {fuel : Nat} {A : Option Addr} {n c : Nat} {y : DataW H × List MemPlace} (h : DataW.trod enc Tryz.prog w base spare held fuel 24 [.slice A n c] = some y) :
    ∃ ways : List Int, n = ways.length ∧ IntsAt w A ways ∧ n ≤ 9223372036854775807 := by
  rcases open_ints Tryz.underlying24 Tryz.underlying3 cells_int h with ⟨hcs, _⟩ | ⟨a, len, cap, zs, hcs, _, hl, hm, hz, _, hcell, _⟩
  · injection hcs with e _
    injection e with e1 e2 e3
    subst e1; subst e2
    exact ⟨[], rfl, fun i x hx => by simp at hx, by omega⟩
  · injection hcs with e _
    injection e with e1 e2 e3
    subst e1; subst e2; subst e3
    have hlz : n ≤ zs.length := by rw [hz]; split <;> omega
    refine ⟨zs.take n, by rw [List.length_take]; omega, fun i x hx => ⟨a, rfl, ?_⟩, by unfold maxLen at hm; omega⟩
    rw [List.getElem?_take] at hx
    split at hx
    · rename_i hin
      rw [hcell i (by omega), List.getD_eq_getElem?_getD, hx]; rfl
    · cases hx
end

theorem glob_of_shape {w : World} (h : w.ShapedOpen Tryz.prog) : Glob w :=
  cell_of_shapedOpen_int (g := 1) (t := 3) (zero := #[.int .i64 0]) h (of_decide_eq_true (by kernel_rfl)) (by kernel_rfl) rfl (by kernel_rfl) (by kernel_rfl) Tryz.underlying3
end Go.Proofs.YtomckoldfdeidaaGreatDoor

/- PlanMakes: for any tree and ways, Make returns the document's parts, or its error: the statement answers true at every input. -/
namespace Go.Proofs.YtomckoldfdeidaaGreatDoor
open Go.RowKit Go.ChangeShapes Go.WideShapes Go.ChangeAt

/-- The plain wrap with one more condition and the world's shape kept. -/
theorem handed_shaped {H : Type} {enc : TypeId × Value → H} {a : Assume} {C : Checked} {os : Os} {f : FuncId} {fn : Func} {s : ChangeSpec} {conds : List PathCond} {apart fresh handsOn again : Bool} {X : World → Array Value → Prop}
    (hX : ∀ (w w' : World) (args : Array Value), w.heap = w'.heap → X w args → X w' args)
    (own : ownKnob C.prog.godebug = none) (started : os.Started) (noInit : C.prog.inits.idxOf? f = none) (hfn : C.prog.funcs[f]? = some fn)
    (witness : ∃ (w : World) (tape : Tape) (i : Input), w.os = os ∧ (w.forCall tape i).Shaped C.prog ∧ i.vars = [] ∧ Input.okWide C.prog (w.forCall tape i) .any w.heap.size f i ∧
      ((s.pre enc C.prog fn conds apart (w.forCall tape i).memory i.args ∧ X (w.forCall tape i).memory i.args) ∧ sizedMet enc C.prog fn (OpenSpec.ofChange s) apart (w.forCall tape i).memory i.args) ∧ a.holds C.prog (lone (Frame.enter C.prog f i.args .normal) [] (w.forCall tape i)))
    (contract : ∀ (W : World) (base : Nat) (args : Array Value) (ds gs : List (DataW H)) (before : List MemPlace),
      (∀ (j : Nat) t v, fn.params[j]? = some t → args[j]? = some v → Value.okWide C.prog W .any base t v) →
      DataW.Whole enc C.prog fn.params.toList s.vars apart W args.toList ds gs before →
      (DataW.weightsEach C.prog (fn.params.toList ++ s.plain.varTypes C.prog) (ds ++ gs)).all (· ≤ reachBytes) = true →
      W.ShapedOpen C.prog →
      Calls C.prog f args W fun e W' => ∃ v, e = .returned v ∧ s.post enc C.prog fn apart fresh handsOn again W args v W') :
    ReturnsInHanded a C os f .any (fun w args => (s.pre enc C.prog fn conds apart w args ∧ X w args) ∧ sizedMet enc C.prog fn (OpenSpec.ofChange s) apart w args) (s.post enc C.prog fn apart fresh handsOn again) := by
  refine returnsInHanded_of_calls own started noInit witness ?_
  intro w tape i _ hsh _ hok hpre _
  obtain ⟨_, _, _, fn', hfn', _, _, _, _, hval⟩ := hok
  have e : fn' = fn := Option.some.inj (hfn'.symm.trans hfn)
  subst e
  obtain ⟨⟨⟨ds, gs, before, hw, _⟩, _⟩, hz⟩ := hpre
  have hw' := DataW.Whole.of_heap (w' := w.forCall tape i) (by rfl) hw
  refine (contract (w.forCall tape i) w.heap.size i.args ds gs before hval hw' (hz.weights hw) hsh).mono fun e W' ⟨v, he, hp⟩ => ?_
  subst he
  exact ChangeSpec.post_blind hp

theorem own : ownKnob Tryz.prog.godebug = none := by kernel_rfl
theorem laidOut : laidOutB Tryz.prog = true := by kernel_rfl

theorem law_all (A W : Option Addr) (n c nw cw : Nat) (xs : List It) (ways : List Int) (w : World) (h : Arg w A W n nw xs ways) :
    Calls Tryz.prog 3 #[.slice A n c, .slice W nw cw] w fun e w' => e = .returned (.bool true) ∧ Below w.heap.size w w' := by
  by_cases hf : shortB xs 20 50000 = false ∨ 6 < nw
  · exact law_far A W n c nw cw xs ways w h hf
  · have hs : shortB xs 20 50000 = true := by
      cases q : shortB xs 20 50000
      · exact absurd (.inl q) hf
      · rfl
    have h6 : nw ≤ 6 := by
      rcases Nat.lt_or_ge 6 nw with q | q
      · exact absurd (.inr q) hf
      · exact q
    by_cases hb : (chkE xs).1 = 0
    · by_cases he : (partsFrom xs (wayS ways) 0 (ownE xs)).1 = 0
      · exact law_good A W n c nw cw xs ways w h hs h6 hb he
      · exact law_err A W n c nw cw xs ways w h hs h6 hb he
    · exact law_bad A W n c nw cw xs ways w h hs h6 hb

set_option maxRecDepth 100000 in
theorem lifted (os : Os) (started : os.Started) (H : Type) (enc : TypeId × Value → H) :
    ReturnsInHanded {} Tryz.checked os 3 .any (fun w args => (Rows.planMakesSpec.pre enc Tryz.prog Tryz.f3 [] false w args ∧ laidMetH Tryz.prog Rows.planMakesRow.laid w) ∧ sizedMet enc Tryz.prog Tryz.f3 (OpenSpec.ofChange Rows.planMakesSpec) false w args)
      (Rows.planMakesSpec.post enc Tryz.prog Tryz.f3 false true false false) := by
  refine handed_shaped (C := Tryz.checked) (X := fun w _ => laidMetH Tryz.prog Rows.planMakesRow.laid w) (fun _ _ _ hh h => h.of_heap hh) own started (by kernel_rfl) Tryz.func3
    (ChangeSpec.witness_shaped (enc := enc) (C := Tryz.checked) (os := os) (X := fun w _ => laidMetH Tryz.prog Rows.planMakesRow.laid w) false (World.laidAll Tryz.prog os Rows.planMakesRow.laid) #[.slice none 0 0, .slice none 0 0] 8 (World.laidAll_os _ _ _)
      (World.shaped_of_ZipB (by kernel_rfl) (by kernel_rfl)) (by kernel_rfl) (by kernel_rfl) (by kernel_rfl)
      (by rw [MakeChecks.laidMetH_plain _ _ _ (by kernel_rfl)]; exact laidMet_laidAll _ (by kernel_rfl) (by kernel_rfl))) ?_
  intro W base args ds gs before hval0 hW hsz hsh
  have hval : ∀ (j : Nat) t v, Tryz.f3.params[j]? = some t → args[j]? = some v → Value.okWide Tryz.prog W .any base t v := hval0
  have hW' := hW
  obtain ⟨p, q, hA0, hV, rfl, _, _⟩ := hW
  have hA : DataW.TrodAll enc Tryz.prog W 0 (fun _ => true) true Tryz.f3.params.toList args.toList ds p := hA0
  rw [Tryz.params3] at hA hval hsz
  obtain ⟨v0, v1, d0, d1, p0, p1, rfl, rfl, rfl, h0, h1⟩ := trodAll_two hA
  obtain ⟨rfl, rfl⟩ := trodVars_none hV
  obtain ⟨A, n, c, rfl⟩ := okWide_slice Tryz.underlying23 (hval 0 23 v0 rfl rfl)
  obtain ⟨Wa, nw, cw, rfl⟩ := okWide_slice Tryz.underlying24 (hval 1 24 v1 rfl rfl)
  have h0k := h0
  have h1k := h1
  obtain ⟨fu0, hf0⟩ := h0
  obtain ⟨fu1, hf1⟩ := h1
  obtain ⟨xs, hn, hx, hwt⟩ := open_tree hf0
  obtain ⟨ways, hnw, hi, hbig⟩ := open_ways hf1
  have hlen : ∀ x ∈ xs, x.path.size ≤ 140737488355328 ∧ x.data.size ≤ 140737488355328 ∧ x.same.size ≤ 140737488355328 := by
    intro x hxm
    have hall : ∀ m ∈ d0.weights Tryz.prog 23, m ≤ 140737488355328 := by
      intro m hm
      have := List.all_eq_true.1 hsz m (DataW.weights_mem_each (j := 0) rfl rfl m hm)
      have h2 := of_decide_eq_true this
      unfold reachBytes at h2
      omega
    obtain ⟨i1, i2, i3⟩ := item_weights (H := H) x
    exact ⟨hall _ (hwt x hxm _ i1), hall _ (hwt x hxm _ i2), hall _ (hwt x hxm _ i3)⟩
  have hlt : ∀ x ∈ p0 ++ p1, x.block < W.heap.size := fun x hx => by simpa using hW'.lt x (by simpa using hx)
  refine (law_all A Wa n c nw cw xs ways W ⟨glob_of_shape hsh, hx, hi, hn, hnw, hlen, hbig⟩).mono fun e W' ⟨he, hb⟩ => ?_
  subst he
  refine ⟨_, rfl, _, _, _, [], p0 ++ p1, [], hW', trodAll_mk1 (shut_bool Tryz.underlying4 _), ?_, rfl, hb.frame _, fun h => by cases h⟩
  exact trodAll_mk2 (Below.trod laidOut (by kernel_rfl) (of_decide_eq_true (by kernel_rfl)) h0k hb (fun x hx => hlt x (List.mem_append.2 (.inl hx)))) (Below.trod laidOut (by kernel_rfl) (of_decide_eq_true (by kernel_rfl)) h1k hb (fun x hx => hlt x (List.mem_append.2 (.inr hx))))

theorem planMakes_holds : Rows.PlanMakesSaid :=
  OpenClaim.holds_of_wide 3 Tryz.f3 rfl rfl rfl rfl rfl rfl rfl ⟨rfl, rfl, rfl, rfl, rfl⟩ rfl rfl rfl rfl rfl (by kernel_rfl) Tryz.func3 (by kernel_rfl)
    (of_decide_eq_true (by kernel_rfl)) (by unfold Func.isWrapper; first | (rw [if_pos (by decide +kernel)]; kernel_rfl) | (rw [if_neg (by decide +kernel)]; exact ⟨rfl, rfl⟩))
    (fun os started H enc _ => lifted os started H enc)

theorem planMakes_card : Rows.PlanMakesCardSaid :=
  Claim7.holds_tied_plain_at .later [] [.data, .pinned] true (true, "b2d465b8deef98f84886daad6d1b05677f26b59a97a69bba4079c087dcf92fac") false planMakes_holds (fun _ h => by cases h) (by kernel_rfl) (fun _ h => by cases h) planMakes_row_tie rfl ⟨rfl, rfl⟩ (by kernel_rfl) rfl
    (fun f fn hf hfn => by
      obtain rfl : f = 3 := Option.some.inj ((show Tryz.prog.funcNamed "seabag/seabaglaw26.PlanMakes" = some 3 by kernel_rfl).symm.trans hf) |>.symm
      obtain rfl : fn = Tryz.f3 := (Option.some.inj (Tryz.func3.symm.trans hfn)).symm
      exact ⟨by kernel_rfl, fun j t ht => by
        rw [Tryz.params3] at ht
        have hm : t ∈ [23, 24] := by simpa using Array.mem_of_getElem? ht
        have hall : ([23, 24].all fun u => !Tryz.prog.wantsStandIn u) = true := by kernel_rfl
        exact (show Tryz.prog.wantsStandIn t = false by simpa using List.all_eq_true.1 hall t hm)⟩)
    (by kernel_rfl)
#print axioms planMakes_card
end Go.Proofs.YtomckoldfdeidaaGreatDoor
