/- Part 3 of 5 of a proof that the statement holds: own lemmas and walks. No further conditions. -/
import Derived.Test.YtomckoldfdeidaaGreatDoorZ1
import Derived.BigRegion
import Derived.WalkMore
import Derived.ScopeJumps

/- package tree: (*checker).add of a file that is another one's. -/
namespace Go.Proofs.YtomckoldfdeidaaGreatDoor
open Go.RowKit

/-- Where an item may be, the checker goes on. -/
def Kept3 (e : Int) (w : World) (B cb kb fb : Nat) (kf : ByteArray → Option Int) (ff : ByteArray → Option It) (last : ByteArray) : Prop := e = 0 → ChkAt TC w B cb kb fb kf ff last

set_option maxHeartbeats 2000000 in
set_option maxRecDepth 100000 in
theorem add_same (x : It) (kf : ByteArray → Option Int) (ff : ByteArray → Option It) (last : ByteArray) (B cb kb fb : Nat) (w : World) (hB : B ≤ w.heap.size) (hg : Glob w) (h : ChkAt TC w B cb kb fb kf ff last) (he : aloneE x = 0) (hl : leB x.path last = false)
    (hup : UpOk kf x) (hs : x.same.toList ≠ []) :
    Calls Tryz.prog 20 #[.pointer (some ⟨cb, 0, none⟩), .agg #[.string x.path, .int .i64 x.kind, .int .i64 x.mode, .string x.data, .string x.same]] w fun e w' => e = .returned (.int .i64 (addE kf ff last x)) ∧ Kept3 (addE kf ff last x) w' B cb kb fb (setB kf x.path x.kind) ff x.path ∧ Below B w w' := by
  obtain ⟨o, ho⟩ : ∃ o, o = Obj.cells #[.string x.path, .int .i64 x.kind, .int .i64 x.mode, .string x.data, .string x.same] 42 := ⟨_, rfl⟩
  have hb0 : Below w.heap.size w (w.alloc o) := (Below.refl _ _).alloc (Nat.le_refl _) o
  have hsh := item_shape x.path x.data x.same x.kind x.mode (w.alloc o) (hg.below hb0)
  subst ho
  have hdir := fun w => path_Dir x.path w (aloneE_plain he)
  obtain ⟨u, hu⟩ : ∃ u : ByteArray, u = ⟨(dirL x.path.data.toList).toArray⟩ := ⟨_, rfl⟩
  rw [← hu] at hdir
  obtain ⟨n, hn⟩ : ∃ n, n = (kf u).getD 0 := ⟨_, rfl⟩
  have hgo : (u.toList == [46]) = true ∨ ((u.toList == [46]) = false ∧ (n != 2) = false) := by
    unfold dirL at hu
    by_cases h0 : upL x.path.data.toList = []
    · left; rw [hu, if_pos h0, toList_mk]; rfl
    · right
      rw [if_neg h0] at hu
      refine ⟨by rw [hu, toList_mk, beq_eq_false_iff_ne]; exact plain_up_ne (aloneE_plain he), ?_⟩
      rcases hup with h1 | h1
      · exact absurd h1 h0
      · rw [← hu, ← hn] at h1; simp [h1]
  rw [show aloneE ⟨x.path, x.kind, x.mode, x.data, x.same⟩ = 0 from he] at hsh
  have HN := Lib.hid hn; clear hn
  have HU := Lib.hid hu; clear hu
  have hl2 : (Op.bytesLess x.path.toList last.toList || x.path.toList == last.toList) = false := hl
  have hs2 : (!x.same.toList.isEmpty) = true := by cases hq : x.same.toList with | nil => exact absurd hq hs | cons a b => rfl
  have hnext := addE_next (ff := ff) he hl hup
  rw [if_pos hs] at hnext
  have HX := Lib.hid hnext
  clear hl he hup hs hnext
  cases hfs : ff x.same with
  | none =>
    have HFS := Lib.hid hfs
    rcases hgo with hgo | ⟨hgo1, hgo2⟩
    all_goals
      go_enter Tryz.func20, Tryz.ntmps20
      go_wp2_with (go_at_call 32; refine hsh.mono ?_)
      rintro e w1 ⟨rfl, hb1⟩
      obtain ⟨hc, hi, hbw, hz⟩ := after_shape h _ hb1
      obtain ⟨h1, h2, h3, h4, h5, h6, h7⟩ := id hc
      have k0 : w1.cell? ⟨cb, 0, none⟩ = some (.map (some kb)) := cell_blk h5 0 rfl
      have k2 : w1.cell? ⟨cb, 2, none⟩ = some (.string last) := cell_blk h5 2 rfl
      have c0 : w1.cell? ⟨w.heap.size, 0, none⟩ = some (.string x.path) := cell_blk hi 0 rfl
      have c1 : w1.cell? ⟨w.heap.size, 1, none⟩ = some (.int .i64 x.kind) := cell_blk hi 1 rfl
      have c2 : w1.cell? ⟨w.heap.size, 2, none⟩ = some (.int .i64 x.mode) := cell_blk hi 2 rfl
      have c3 : w1.cell? ⟨w.heap.size, 3, none⟩ = some (.string x.data) := cell_blk hi 3 rfl
      have k1 : w1.cell? ⟨cb, 1, none⟩ = some (.map (some fb)) := cell_blk h5 1 rfl
      have c4 : w1.cell? ⟨w.heap.size, 4, none⟩ = some (.string x.same) := cell_blk hi 4 rfl
      have hlk : ∀ q, (Instr.lookup 59 (.map (some kb)) (.string u) false).run Tryz.prog (w1.drewN q) = .ok (.int .i64 n) (w1.drewN q) := by
        intro q
        rw [(h6.drewN q).look Tryz.underlying59 Tryz.underlying9 (by trivial) (z := .int .i64 0) (by kernel_rfl) false, HN.out]
        cases hk : kf u <;> simp [kV, hk]
      have hlf : ∀ y, MapAt .string y fb (fV ff) → (Instr.lookup 60 (.map (some fb)) (.string x.same) true).run Tryz.prog y = .ok (.tuple #[.agg #[.string ⟨#[]⟩, .int .i64 0, .int .i64 0, .string ⟨#[]⟩, .string ⟨#[]⟩], .bool false]) y := by
        intro y hy
        rw [hy.look Tryz.underlying60 Tryz.underlying9 (by trivial) (z := .agg #[.string ⟨#[]⟩, .int .i64 0, .int .i64 0, .string ⟨#[]⟩, .string ⟨#[]⟩]) (by kernel_rfl) true]
        simp [fV, HFS.out]
      have HLF := Lib.hid hlf; clear hlf
      have H7a := Lib.hid h7
      have hcb := blk_lt h5
      have HBW := Lib.hid hbw
      have HC := Lib.hid hc
      have HI := Lib.hid hi
      have hz1 : w.heap.size < w1.heap.size := hz
      clear hbw h1 h2 h3 h4 h5 h6 h7 hi hb1 hc
      go_wp2
      go_quiet (fail)
      have k0q : (w1.drewN nq).cell? ⟨cb, 0, none⟩ = some (.map (some kb)) := k0
      have k1q : (w1.drewN nq).cell? ⟨cb, 1, none⟩ = some (.map (some fb)) := k1
      have c0q : (w1.drewN nq).cell? ⟨w.heap.size, 0, none⟩ = some (.string x.path) := c0
      have c1q : (w1.drewN nq).cell? ⟨w.heap.size, 1, none⟩ = some (.int .i64 x.kind) := c1
      have c2q : (w1.drewN nq).cell? ⟨w.heap.size, 2, none⟩ = some (.int .i64 x.mode) := c2
      have c3q : (w1.drewN nq).cell? ⟨w.heap.size, 3, none⟩ = some (.string x.data) := c3
      have c4q : (w1.drewN nq).cell? ⟨w.heap.size, 4, none⟩ = some (.string x.same) := c4
      have hlkq := hlk nq
      have hcbq : cb < (w1.drewN nq).heap.size := hcb
      have hzq : w.heap.size < (w1.drewN nq).heap.size := hz
      have HBQ := Lib.hid (belowN HBW.out nq)
      have HCQ : Hid (ChkAt TC (w1.drewN nq) B cb kb fb kf ff last) := HC.out
      have HIQ : Hid ((w1.drewN nq).heap[w.heap.size]? = _) := HI.out
      have hlkf := HLF.out _ (H7a.out.drewN nq).drew
      have hlkg := fun o => HLF.out _ ((H7a.out.drewN nq).alloc o).drew
      clear k0 k1 k2 c0 c1 c2 c3 c4 hlk hcb hz hz1 HBW HC HI HLF H7a
      generalize w1.drewN nq = wq at *
      go_wp2_with (go_at_call 33; (with_reducible refine (hdir _).mono ?_); rintro e w' ⟨rfl, rfl⟩)
      go_region
      go_wp2
      go_ret
      have hx := HX.out
      rw [HFS.out] at hx
      refine ⟨ret_int hx.symm, fun e0 => ?_, ((HBQ.out.mono hB).alloc (by have := HBQ.out.size; omega) _).drew⟩
      rw [hx] at e0; cases e0
  | some o =>
    have HFS := Lib.hid hfs
    by_cases hbad : o.mode ≠ x.mode ∨ x.data.toList ≠ []
    · have HBAD := Lib.hid hbad
      have hbb : (o.mode != x.mode) = true ∨ ((o.mode != x.mode) = false ∧ (!x.data.toList.isEmpty) = true) := by
        by_cases hm : o.mode = x.mode
        · right
          refine ⟨by simp [hm], ?_⟩
          rcases hbad with h1 | h1
          · exact absurd hm h1
          · cases hq : x.data.toList with
            | nil => exact absurd hq h1
            | cons a b => rfl
        · left; simpa using hm
      clear hbad
      rcases hbb with hbb1 | ⟨hbb1, hbb2⟩
      all_goals
        rcases hgo with hgo | ⟨hgo1, hgo2⟩
        all_goals
          go_enter Tryz.func20, Tryz.ntmps20
          go_wp2_with (go_at_call 32; refine hsh.mono ?_)
          rintro e w1 ⟨rfl, hb1⟩
          obtain ⟨hc, hi, hbw, hz⟩ := after_shape h _ hb1
          obtain ⟨h1, h2, h3, h4, h5, h6, h7⟩ := id hc
          have k0 : w1.cell? ⟨cb, 0, none⟩ = some (.map (some kb)) := cell_blk h5 0 rfl
          have k2 : w1.cell? ⟨cb, 2, none⟩ = some (.string last) := cell_blk h5 2 rfl
          have c0 : w1.cell? ⟨w.heap.size, 0, none⟩ = some (.string x.path) := cell_blk hi 0 rfl
          have c1 : w1.cell? ⟨w.heap.size, 1, none⟩ = some (.int .i64 x.kind) := cell_blk hi 1 rfl
          have c2 : w1.cell? ⟨w.heap.size, 2, none⟩ = some (.int .i64 x.mode) := cell_blk hi 2 rfl
          have c3 : w1.cell? ⟨w.heap.size, 3, none⟩ = some (.string x.data) := cell_blk hi 3 rfl
          have k1 : w1.cell? ⟨cb, 1, none⟩ = some (.map (some fb)) := cell_blk h5 1 rfl
          have c4 : w1.cell? ⟨w.heap.size, 4, none⟩ = some (.string x.same) := cell_blk hi 4 rfl
          have hlk : ∀ q, (Instr.lookup 59 (.map (some kb)) (.string u) false).run Tryz.prog (w1.drewN q) = .ok (.int .i64 n) (w1.drewN q) := by
            intro q
            rw [(h6.drewN q).look Tryz.underlying59 Tryz.underlying9 (by trivial) (z := .int .i64 0) (by kernel_rfl) false, HN.out]
            cases hk : kf u <;> simp [kV, hk]
          have hlf : ∀ y, MapAt .string y fb (fV ff) → (Instr.lookup 60 (.map (some fb)) (.string x.same) true).run Tryz.prog y = .ok (.tuple #[.agg #[.string o.path, .int .i64 o.kind, .int .i64 o.mode, .string o.data, .string o.same], .bool true]) y := by
            intro y hy
            rw [hy.look Tryz.underlying60 Tryz.underlying9 (by trivial) (z := .agg #[.string ⟨#[]⟩, .int .i64 0, .int .i64 0, .string ⟨#[]⟩, .string ⟨#[]⟩]) (by kernel_rfl) true]
            simp [fV, HFS.out, It.val]
          have HLF := Lib.hid hlf; clear hlf
          have H7a := Lib.hid h7
          have hcb := blk_lt h5
          have HBW := Lib.hid hbw
          have HC := Lib.hid hc
          have HI := Lib.hid hi
          have hz1 : w.heap.size < w1.heap.size := hz
          clear hbw h1 h2 h3 h4 h5 h6 h7 hi hb1 hc
          go_wp2
          go_quiet (fail)
          have k0q : (w1.drewN nq).cell? ⟨cb, 0, none⟩ = some (.map (some kb)) := k0
          have k1q : (w1.drewN nq).cell? ⟨cb, 1, none⟩ = some (.map (some fb)) := k1
          have c0q : (w1.drewN nq).cell? ⟨w.heap.size, 0, none⟩ = some (.string x.path) := c0
          have c1q : (w1.drewN nq).cell? ⟨w.heap.size, 1, none⟩ = some (.int .i64 x.kind) := c1
          have c2q : (w1.drewN nq).cell? ⟨w.heap.size, 2, none⟩ = some (.int .i64 x.mode) := c2
          have c3q : (w1.drewN nq).cell? ⟨w.heap.size, 3, none⟩ = some (.string x.data) := c3
          have c4q : (w1.drewN nq).cell? ⟨w.heap.size, 4, none⟩ = some (.string x.same) := c4
          have hlkq := hlk nq
          have hcbq : cb < (w1.drewN nq).heap.size := hcb
          have hzq : w.heap.size < (w1.drewN nq).heap.size := hz
          have HBQ := Lib.hid (belowN HBW.out nq)
          have HCQ : Hid (ChkAt TC (w1.drewN nq) B cb kb fb kf ff last) := HC.out
          have HIQ : Hid ((w1.drewN nq).heap[w.heap.size]? = _) := HI.out
          have hlkf := HLF.out _ (H7a.out.drewN nq).drew
          have hlkg := fun o => HLF.out _ ((H7a.out.drewN nq).alloc o).drew
          clear k0 k1 k2 c0 c1 c2 c3 c4 hlk hcb hz hz1 HBW HC HI HLF H7a
          generalize w1.drewN nq = wq at *
          go_wp2_with (go_at_call 33; (with_reducible refine (hdir _).mono ?_); rintro e w' ⟨rfl, rfl⟩)
          go_region
          go_wp2
          go_ret
          have hx := HX.out
          rw [HFS.out] at hx
          simp only [] at hx
          rw [if_pos HBAD.out] at hx
          refine ⟨ret_int hx.symm, fun e0 => ?_, ((HBQ.out.mono hB).alloc (by have := HBQ.out.size; omega) _).drew⟩
          rw [hx] at e0; cases e0
    · have hbb1 : (o.mode != x.mode) = false := by
        by_cases hm : o.mode = x.mode
        · simp [hm]
        · exact absurd (.inl hm) hbad
      have hbb2 : (!x.data.toList.isEmpty) = false := by
        cases hq : x.data.toList with
        | nil => rfl
        | cons a b => exact absurd (.inr (by rw [hq]; simp)) hbad
      have HBAD := Lib.hid hbad
      clear hbad
      rcases hgo with hgo | ⟨hgo1, hgo2⟩
      all_goals
        go_enter Tryz.func20, Tryz.ntmps20
        go_wp2_with (go_at_call 32; refine hsh.mono ?_)
        rintro e w1 ⟨rfl, hb1⟩
        obtain ⟨hc, hi, hbw, hz⟩ := after_shape h _ hb1
        obtain ⟨h1, h2, h3, h4, h5, h6, h7⟩ := id hc
        have k0 : w1.cell? ⟨cb, 0, none⟩ = some (.map (some kb)) := cell_blk h5 0 rfl
        have k2 : w1.cell? ⟨cb, 2, none⟩ = some (.string last) := cell_blk h5 2 rfl
        have c0 : w1.cell? ⟨w.heap.size, 0, none⟩ = some (.string x.path) := cell_blk hi 0 rfl
        have c1 : w1.cell? ⟨w.heap.size, 1, none⟩ = some (.int .i64 x.kind) := cell_blk hi 1 rfl
        have c2 : w1.cell? ⟨w.heap.size, 2, none⟩ = some (.int .i64 x.mode) := cell_blk hi 2 rfl
        have c3 : w1.cell? ⟨w.heap.size, 3, none⟩ = some (.string x.data) := cell_blk hi 3 rfl
        have k1 : w1.cell? ⟨cb, 1, none⟩ = some (.map (some fb)) := cell_blk h5 1 rfl
        have c4 : w1.cell? ⟨w.heap.size, 4, none⟩ = some (.string x.same) := cell_blk hi 4 rfl
        have hlk : ∀ q, (Instr.lookup 59 (.map (some kb)) (.string u) false).run Tryz.prog (w1.drewN q) = .ok (.int .i64 n) (w1.drewN q) := by
          intro q
          rw [(h6.drewN q).look Tryz.underlying59 Tryz.underlying9 (by trivial) (z := .int .i64 0) (by kernel_rfl) false, HN.out]
          cases hk : kf u <;> simp [kV, hk]
        have hlf : ∀ y, MapAt .string y fb (fV ff) → (Instr.lookup 60 (.map (some fb)) (.string x.same) true).run Tryz.prog y = .ok (.tuple #[.agg #[.string o.path, .int .i64 o.kind, .int .i64 o.mode, .string o.data, .string o.same], .bool true]) y := by
          intro y hy
          rw [hy.look Tryz.underlying60 Tryz.underlying9 (by trivial) (z := .agg #[.string ⟨#[]⟩, .int .i64 0, .int .i64 0, .string ⟨#[]⟩, .string ⟨#[]⟩]) (by kernel_rfl) true]
          simp [fV, HFS.out, It.val]
        have HLF := Lib.hid hlf; clear hlf
        have H7a := Lib.hid h7
        have hcb := blk_lt h5
        have HBW := Lib.hid hbw
        have HC := Lib.hid hc
        have HI := Lib.hid hi
        have hz1 : w.heap.size < w1.heap.size := hz
        clear hbw h1 h2 h3 h4 h5 h6 h7 hi hb1 hc
        go_wp2
        go_quiet (fail)
        have k0q : (w1.drewN nq).cell? ⟨cb, 0, none⟩ = some (.map (some kb)) := k0
        have k1q : (w1.drewN nq).cell? ⟨cb, 1, none⟩ = some (.map (some fb)) := k1
        have c0q : (w1.drewN nq).cell? ⟨w.heap.size, 0, none⟩ = some (.string x.path) := c0
        have c1q : (w1.drewN nq).cell? ⟨w.heap.size, 1, none⟩ = some (.int .i64 x.kind) := c1
        have c2q : (w1.drewN nq).cell? ⟨w.heap.size, 2, none⟩ = some (.int .i64 x.mode) := c2
        have c3q : (w1.drewN nq).cell? ⟨w.heap.size, 3, none⟩ = some (.string x.data) := c3
        have c4q : (w1.drewN nq).cell? ⟨w.heap.size, 4, none⟩ = some (.string x.same) := c4
        have hlkq := hlk nq
        have hcbq : cb < (w1.drewN nq).heap.size := hcb
        have hzq : w.heap.size < (w1.drewN nq).heap.size := hz
        have HBQ := Lib.hid (belowN HBW.out nq)
        have HCQ : Hid (ChkAt TC (w1.drewN nq) B cb kb fb kf ff last) := HC.out
        have HIQ : Hid ((w1.drewN nq).heap[w.heap.size]? = _) := HI.out
        have hlkf := HLF.out _ (H7a.out.drewN nq).drew
        have hlkg := fun o => HLF.out _ ((H7a.out.drewN nq).alloc o).drew
        clear k0 k1 k2 c0 c1 c2 c3 c4 hlk hcb hz hz1 HBW HC HI HLF H7a
        generalize w1.drewN nq = wq at *
        go_wp2_with (go_at_call 33; (with_reducible refine (hdir _).mono ?_); rintro e w' ⟨rfl, rfl⟩)
        go_region
        go_wp2
        obtain ⟨h1, h2, h3, h4, h5, h6, h7⟩ := id HCQ.out
        have hi := HIQ.out
        have nf1 : cb ≠ fb := by
          intro e; subst e; obtain ⟨es, cl, hb, _⟩ := h7; rw [h5] at hb; cases hb
        obtain ⟨ob, hob⟩ : ∃ ob, ob = Obj.cells #[.string o.path, .int .i64 o.kind, .int .i64 o.mode, .string o.data, .string o.same] 42 := ⟨_, rfl⟩
        have HF5 : Hid ((wq.alloc ob).drew.heap[cb]? = some (.cells #[.map (some kb), .map (some fb), .string last] TC (0, 0))) := (Below.heap_alloc wq ob cb (blk_lt h5)).trans h5
        have HFI : Hid ((wq.alloc ob).drew.heap[w.heap.size]? = _) := (Below.heap_alloc wq ob w.heap.size (blk_lt hi)).trans hi
        have HM6 : Hid (MapAt .string (wq.alloc ob).drew kb (kV kf)) := (h6.alloc ob).drew
        have HMF : Hid (MapAt .string (wq.alloc ob).drew fb (fV ff)) := (h7.alloc ob).drew
        have HBF : Hid (Below B w (wq.alloc ob).drew) := ((HBQ.out.mono hB).alloc (by have := HBQ.out.size; omega) _).drew
        have p0 : (wq.alloc ob).drew.cell? ⟨cb, 0, none⟩ = some (.map (some kb)) := cell_blk HF5.out 0 rfl
        have p1 : (wq.alloc ob).drew.cell? ⟨w.heap.size, 0, none⟩ = some (.string x.path) := cell_blk HFI.out 0 rfl
        have p2 : (wq.alloc ob).drew.cell? ⟨w.heap.size, 1, none⟩ = some (.int .i64 x.kind) := cell_blk HFI.out 1 rfl
        have HZF : w.heap.size < (wq.alloc ob).drew.heap.size := blk_lt HFI.out
        rw [← hob]
        clear h1 h2 h3 h4 h5 h6 h7 hi k0q k1q c0q c1q c2q c3q c4q hlkq hcbq hzq hlkf hlkg hob
        generalize (wq.alloc ob).drew = wf at *
        obtain ⟨h1, h2, h3, h4, _, _, _⟩ := id HCQ.out
        have h5 := HF5.out
        have hi := HFI.out
        have h6 := HM6.out
        have h7 := HMF.out
        obtain ⟨w2, v2, stamp, hent, hpend, hg2, hz2⟩ := (h6.drew).entry (P := Tryz.prog) (t := 59) Tryz.underlying59 Tryz.underlying9 (key := .string x.path) (by trivial) (z := .int .i64 0) (by kernel_rfl)
        obtain ⟨w3, hput, hm3, hg3, hz3⟩ := hpend.put (P := Tryz.prog) 59 (.int .i64 x.kind)
        have ne1 : cb ≠ kb := by
          intro e; subst e; obtain ⟨es, cl, hb, _⟩ := h6; rw [h5] at hb; cases hb
        have ne2 : w.heap.size ≠ kb := by
          intro e; rw [← e] at h6; obtain ⟨es, cl, hb, _⟩ := h6; rw [hi] at hb; cases hb
        have b5 : w2.heap[cb]? = some (.cells #[.map (some kb), .map (some fb), .string last] TC (0, 0)) := (hg2.block cb (blk_lt h5) (by simpa using ne1)).trans h5
        have bi : w2.heap[w.heap.size]? = _ := (hg2.block w.heap.size (blk_lt hi) (by simpa using ne2)).trans hi
        have d5 : w3.heap[cb]? = some (.cells #[.map (some kb), .map (some fb), .string last] TC (0, 0)) := (hg3.block cb (blk_lt b5) (by simpa using ne1)).trans b5
        have di : w3.heap[w.heap.size]? = _ := (hg3.block w.heap.size (blk_lt bi) (by simpa using ne2)).trans bi
        have q0 : w2.cell? ⟨cb, 0, none⟩ = some (.map (some kb)) := cell_blk b5 0 rfl
        have q1 : w2.cell? ⟨w.heap.size, 0, none⟩ = some (.string x.path) := cell_blk bi 0 rfl
        have q2 : w2.cell? ⟨w.heap.size, 1, none⟩ = some (.int .i64 x.kind) := cell_blk bi 1 rfl
        have r0 : w3.cell? ⟨cb, 0, none⟩ = some (.map (some kb)) := cell_blk d5 0 rfl
        have r1 : w3.cell? ⟨w.heap.size, 0, none⟩ = some (.string x.path) := cell_blk di 0 rfl
        have r2 : w3.cell? ⟨w.heap.size, 1, none⟩ = some (.int .i64 x.kind) := cell_blk di 1 rfl
        have r3 : w3.cell? ⟨cb, 2, none⟩ = some (.string last) := cell_blk d5 2 rfl
        have r4 : w3.frozen? ⟨cb, 2, none⟩ = false := Lib.frozen_of_heap d5 2
        have e5 := set_blk d5 2 (.string x.path)
        have ne3 : w.heap.size ≠ cb := by intro e; have := h.2.2.2.2.1; rw [← e] at this; have := blk_lt this; omega
        have ei : (w3.setCell ⟨cb, 2, none⟩ (.string x.path)).heap[w.heap.size]? = _ := (Below.heap_setCell w3 ⟨cb, 2, none⟩ (.string x.path) w.heap.size ne3).trans di
        have s0 : (w3.setCell ⟨cb, 2, none⟩ (.string x.path)).cell? ⟨cb, 0, none⟩ = some (.map (some kb)) := cell_blk e5 0 rfl
        have s1 : (w3.setCell ⟨cb, 2, none⟩ (.string x.path)).cell? ⟨w.heap.size, 0, none⟩ = some (.string x.path) := cell_blk ei 0 rfl
        have s2 : (w3.setCell ⟨cb, 2, none⟩ (.string x.path)).cell? ⟨w.heap.size, 1, none⟩ = some (.int .i64 x.kind) := cell_blk ei 1 rfl
        have HE5 := Lib.hid e5
        have HM3 := Lib.hid hm3; have HD5 := Lib.hid d5; have H7 := Lib.hid h7; have HG2 := Lib.hid hg2; have HG3 := Lib.hid hg3; have HZ2 := Lib.hid hz2; have HZ3 := Lib.hid hz3
        clear e5 ei hm3 d5 di bi b5 h7 h6 h5 hi hg2 hg3 hz2 hz3 hpend
        go_region_held3 (fun w' => w'.cell? ⟨cb, 0, none⟩ = some (.map (some kb)) ∧ w'.cell? ⟨w.heap.size, 0, none⟩ = some (.string x.path) ∧ w'.cell? ⟨w.heap.size, 1, none⟩ = some (.int .i64 x.kind)) (first | go_keep | exact ⟨q0, q1, q2⟩ | exact ⟨r0, r1, r2⟩ | exact ⟨s0, s1, s2⟩) ((fail))
        go_wp2
        go_ret
        have hB2 : B ≤ w2.heap.size := by
          have e1 := HZ2.out
          have e2 : wf.drew.heap.size = wf.heap.size := rfl
          omega
        have hb4 : Below B w w3 := ((HBF.out.drew).grown HG2.out (by show B ≤ wf.heap.size; omega) (fun k hk => by cases hk; exact h2)).grown HG3.out hB2 (fun k hk => by cases hk; exact h2)
        have hx := HX.out
        rw [HFS.out] at hx
        simp only [] at hx
        rw [if_neg HBAD.out] at hx
        refine ⟨ret_int hx.symm, fun _ => ⟨h1, h2, h3, h4, HE5.out, ?_, ?_⟩, hb4.setCell h1 _⟩
        · have := (HM3.out.setCell ⟨cb, 2, none⟩ ne1 (.string x.path))
          rw [upd_kV] at this
          exact this
        · exact (((H7.out.drew).grown HG2.out (by simpa using h4.symm)).grown HG3.out (by simpa using h4.symm)).setCell ⟨cb, 2, none⟩ nf1 (.string x.path)

end Go.Proofs.YtomckoldfdeidaaGreatDoor

/- PLAIN WORDS: a tree's check, as the program goes through it. -/
namespace Go.Proofs.YtomckoldfdeidaaGreatDoor
open Go

def chkFrom (kf : ByteArray → Option Int) (ff : ByteArray → Option It) (last : ByteArray) : List It → Nat → Int × Int
  | [], _ => (0, 0)
  | x :: r, k => if addE kf ff last x ≠ 0 then (addE kf ff last x, (k : Int)) else chkFrom (setB kf x.path x.kind) (addF ff x) x.path r (k + 1)

def chkE (xs : List It) : Int × Int :=
  if xs.length = 0 then (12, 0) else if 4096 < xs.length then (24, 0) else chkFrom (fun _ => none) (fun _ => none) ⟨#[]⟩ xs 0

def ItemAt (w : World) (ad : Addr) (x : It) : Prop :=
  w.cell? ad = some (.string x.path) ∧ w.cell? ⟨ad.block, ad.off + 1, none⟩ = some (.int .i64 x.kind) ∧ w.cell? ⟨ad.block, ad.off + 2, none⟩ = some (.int .i64 x.mode) ∧
  w.cell? ⟨ad.block, ad.off + 3, none⟩ = some (.string x.data) ∧ w.cell? ⟨ad.block, ad.off + 4, none⟩ = some (.string x.same)
def ItemsAt (w : World) (A : Option Addr) (xs : List It) : Prop := xs.length ≤ 9223372036854775807 ∧ ∀ i x, xs[i]? = some x → ∃ a, A = some a ∧ ItemAt w (a.add (i * 5)) x

theorem ItemAt.below {B : Nat} {w w' : World} {ad : Addr} {x : It} (h : ItemAt w ad x) (hB : w.heap.size ≤ B) (hb : RowKit.Below B w w') : ItemAt w' ad x := by
  obtain ⟨h0, h1, h2, h3, h4⟩ := h
  have l := World.block_lt_of_cell? w _ h0
  exact ⟨(hb.cell (by omega)).trans h0, (hb.cell (by show ad.block < B; omega)).trans h1, (hb.cell (by show ad.block < B; omega)).trans h2, (hb.cell (by show ad.block < B; omega)).trans h3, (hb.cell (by show ad.block < B; omega)).trans h4⟩
theorem ItemsAt.below {B : Nat} {w w' : World} {A : Option Addr} {xs : List It} (h : ItemsAt w A xs) (hB : w.heap.size ≤ B) (hb : RowKit.Below B w w') : ItemsAt w' A xs := by
  refine ⟨h.1, fun i x hx => ?_⟩
  obtain ⟨a, ha, hi⟩ := h.2 i x hx
  exact ⟨a, ha, hi.below hB hb⟩
end Go.Proofs.YtomckoldfdeidaaGreatDoor

/- package tree: (*checker).add, and Check. -/
namespace Go.Proofs.YtomckoldfdeidaaGreatDoor
open Go.RowKit

theorem checker_add (x : It) (kf : ByteArray → Option Int) (ff : ByteArray → Option It) (last : ByteArray) (B cb kb fb : Nat) (w : World) (hB : B ≤ w.heap.size) (hg : Glob w) (h : ChkAt TC w B cb kb fb kf ff last) :
    Calls Tryz.prog 20 #[.pointer (some ⟨cb, 0, none⟩), .agg #[.string x.path, .int .i64 x.kind, .int .i64 x.mode, .string x.data, .string x.same]] w fun e w' => e = .returned (.int .i64 (addE kf ff last x)) ∧ Kept3 (addE kf ff last x) w' B cb kb fb (setB kf x.path x.kind) (addF ff x) x.path ∧ Below B w w' := by
  by_cases he : aloneE x = 0
  · cases hl : leB x.path last with
    | true =>
      refine (add_last x kf ff last B cb kb fb w hg h he hl).mono ?_
      rintro e w' ⟨rfl, hb⟩
      have hx : addE kf ff last x = 13 := by unfold addE; rw [if_neg (by rw [he]; simp), if_pos hl]
      exact ⟨by rw [hx], (fun (e0 : addE kf ff last x = 0) => by rw [hx] at e0; cases e0), hb.mono hB⟩
    | false =>
      by_cases hu : UpOk kf x
      · have hn := addE_next (ff := ff) he hl hu
        by_cases hs : x.same.toList = []
        · rw [if_neg (by simp [hs])] at hn
          by_cases hk : x.kind = 1
          · refine (add_file x kf ff last B cb kb fb w hB hg h he hl hu hs hk).mono ?_
            rintro e w' ⟨rfl, hc, hb⟩
            refine ⟨by rw [hn], fun _ => ?_, hb⟩
            unfold addF; rw [if_pos ⟨hs, hk⟩]; exact hc
          · refine (add_plain x kf ff last B cb kb fb w hB hg h he hl hu hs hk).mono ?_
            rintro e w' ⟨rfl, hc, hb⟩
            refine ⟨by rw [hn], fun _ => ?_, hb⟩
            unfold addF; rw [if_neg (by rintro ⟨_, b⟩; exact hk b)]; exact hc
        · refine (add_same x kf ff last B cb kb fb w hB hg h he hl hu hs).mono ?_
          rintro e w' ⟨rfl, hc, hb⟩
          refine ⟨rfl, fun e0 => ?_, hb⟩
          unfold addF; rw [if_neg (by rintro ⟨a, _⟩; exact hs a)]; exact hc e0
      · have h1 : upL x.path.data.toList ≠ [] := fun e => hu (.inl e)
        have h2 : (kf ⟨(upL x.path.data.toList).toArray⟩).getD 0 ≠ 2 := fun e => hu (.inr e)
        refine (add_up x kf ff last B cb kb fb w hg h he hl h1 h2).mono ?_
        rintro e w' ⟨rfl, hb⟩
        have hx : addE kf ff last x = 14 := by unfold addE; rw [if_neg (by rw [he]; simp), if_neg (by rw [hl]; simp), if_pos ⟨h1, h2⟩]
        exact ⟨by rw [hx], (fun (e0 : addE kf ff last x = 0) => by rw [hx] at e0; cases e0), hb.mono hB⟩
  · refine (add_shape x kf ff last B cb kb fb w hg h he).mono ?_
    rintro e w' ⟨rfl, hb⟩
    have hx : addE kf ff last x = aloneE x := by unfold addE; rw [if_pos he]
    exact ⟨by rw [hx], (fun (e0 : addE kf ff last x = 0) => by rw [hx] at e0; exact absurd e0 he), hb.mono hB⟩

set_option maxHeartbeats 2000000 in
set_option maxRecDepth 100000 in
theorem tree_Check (A : Option Addr) (c : Nat) (xs : List It) (w : World) (hg : Glob w) (hx : ItemsAt w A xs) :
    Calls Tryz.prog 12 #[.slice A xs.length c] w fun e w' => e = .returned (.tuple #[.int .i64 (chkE xs).1, .int .i64 (chkE xs).2]) ∧ Below w.heap.size w w' := by
  by_cases h0 : xs.length = 0
  · have e1 : chkE xs = (12, 0) := by unfold chkE; rw [if_pos h0]
    rw [e1]
    have hz : ((xs.length : Int) == 0) = true := by simp [h0]
    go_enter Tryz.func12, Tryz.ntmps12
    go_wp2
    go_ret2
    exact ⟨rfl, Below.refl _ _⟩
  by_cases h1 : 4096 < xs.length
  · have e1 : chkE xs = (24, 0) := by unfold chkE; rw [if_neg h0, if_pos h1]
    rw [e1]
    have hz : ((xs.length : Int) == 0) = false := by rw [beq_eq_false_iff_ne]; omega
    have hz2 : (4096 : Int) < xs.length := by omega
    go_enter Tryz.func12, Tryz.ntmps12
    go_wp2
    go_ret2
    exact ⟨rfl, Below.refl _ _⟩
  have e1 : chkE xs = chkFrom (fun _ => none) (fun _ => none) ⟨#[]⟩ xs 0 := by unfold chkE; rw [if_neg h0, if_neg h1]
  have hz : ((xs.length : Int) == 0) = false := by rw [beq_eq_false_iff_ne]; omega
  have hz2 : decide ((4096 : Int) < xs.length) = false := by rw [decide_eq_false_iff_not]; omega
  have hz3 : (xs.length : Int) ≤ 4096 := by omega
  have E1 := Lib.hid e1; clear e1
  have hmm := @run_makeMap Tryz.prog
  go_enter Tryz.func12, Tryz.ntmps12
  go_wp2
  go_loopw [22] (fun i wr => ∃ (k : Nat) (kf : ByteArray → Option Int) (ff : ByteArray → Option It) (last : ByteArray), k ≤ xs.length ∧ i = .int .i64 k ∧ chkFrom kf ff last (xs.drop k) k = chkE xs ∧ ChkAt TC wr w.heap.size (w.heap.size + 1 + 1) w.heap.size (w.heap.size + 1) kf ff last ∧ Below w.heap.size w wr) (fun i _ => xs.length - (intOf i).toNat)
  case atStart =>
    refine ⟨0, fun _ => none, fun _ => none, ⟨#[]⟩, Nat.zero_le _, rfl, E1.out.symm, ⟨by omega, Nat.le_refl _, by omega, by omega, ?_, ?_, ?_⟩, (((Below.refl _ _).alloc (Nat.le_refl _) _).alloc (by simp) _).alloc (by simp; omega) _⟩
    · have := (MapKept.heap_alloc ((w.alloc (.map #[] 0)).alloc (.map #[] 0)) (.cells #[.map (some w.heap.size), .map (some (w.heap.size + 1)), .string ⟨#[]⟩] 62)).1
      simpa [TC] using this
    · have := (((MapAt.made .string w).alloc (.map #[] 0)).alloc (.cells #[.map (some w.heap.size), .map (some (w.heap.size + 1)), .string ⟨#[]⟩] 62))
      have e : kV (fun _ => none) = fun _ => none := by funext s; cases s <;> rfl
      rw [e]; exact this
    · have := ((MapAt.made .string (w.alloc (.map #[] 0))).alloc (.cells #[.map (some w.heap.size), .map (some (w.heap.size + 1)), .string ⟨#[]⟩] 62))
      have e : fV (fun _ => none) = fun _ => none := by funext s; cases s <;> rfl
      rw [e]; simpa using this
  case round =>
    obtain ⟨k, kf, ff, last, hk, rfl, hch, hC, hbw⟩ := hrel
    by_cases hlt : k < xs.length
    · obtain ⟨x, hxk⟩ : ∃ x, xs[k]? = some x := ⟨_, List.getElem?_eq_getElem hlt⟩
      obtain ⟨a, rfl, hi0, hi1, hi2, hi3, hi4⟩ := (hx.below (Nat.le_refl _) hbw).2 k x hxk
      have hadd := fun W hB hg hc => checker_add x kf ff last w.heap.size (w.heap.size + 1 + 1) w.heap.size (w.heap.size + 1) W hB hg hc
      have hsz := hbw.size
      have hd : xs.drop k = x :: xs.drop (k + 1) := by
        rw [List.drop_eq_getElem_cons hlt]
        rw [List.getElem?_eq_getElem hlt] at hxk
        rw [Option.some.inj hxk]
      rw [hd, chkFrom] at hch
      have hadd0 := hadd (wr.alloc (.cells #[.string x.path, .int .i64 x.kind, .int .i64 x.mode, .string x.data, .string x.same] 42)) (by simp; omega) ((hg.below hbw).below ((Below.refl _ _).alloc (Nat.le_refl _) _))
        (by obtain ⟨h1, h2, h3, h4, h5, h6, h7⟩ := hC; exact ⟨h1, h2, h3, h4, (Below.heap_alloc _ _ _ (blk_lt h5)).trans h5, h6.alloc _, h7.alloc _⟩)
      clear hadd
      have HC := Lib.hid hC; have HD := Lib.hid hd; have HK := Lib.hid hxk; have HCH := Lib.hid hch; have HBW := Lib.hid hbw
      clear hC hd hxk hch hbw
      by_cases he : addE kf ff last x = 0
      · have HE := Lib.hid he
        rw [he] at hadd0
        go_wp2_with (go_at_call 20; refine hadd0.mono ?_)
        rintro e w1 ⟨rfl, hk3, hb1⟩
        go_wp2
        go_roundw
        case rel =>
          have hc := HCH.out
          rw [if_neg (by rw [HE.out]; simp)] at hc
          exact ⟨k + 1, _, _, _, by omega, by go_num, hc, hk3 rfl, (HBW.out.alloc hsz _).trans hb1⟩
        case measure => simp [intOf]; omega
      · have HE := Lib.hid he
        have hne : (addE kf ff last x != 0) = true := by simpa using he
        obtain ⟨E, hE⟩ : ∃ E, E = addE kf ff last x := ⟨_, rfl⟩
        rw [← hE] at hadd0 hne
        have HEE := Lib.hid hE
        clear he hE
        go_wp2_with (go_at_call 20; refine hadd0.mono ?_)
        rintro e w1 ⟨rfl, hk3, hb1⟩
        go_wp2
        go_ret2
        have hc := HCH.out
        rw [if_pos HE.out, ← HEE.out] at hc
        rw [← hc]
        exact ⟨rfl, (HBW.out.alloc hsz _).trans hb1⟩
    · have e : k = xs.length := by omega
      have hc := hch
      rw [e, List.drop_length, chkFrom] at hc
      have HCH := Lib.hid hc
      clear hch hc
      go_wp2
      go_ret2
      rw [← HCH.out]
      exact ⟨rfl, hbw⟩
end Go.Proofs.YtomckoldfdeidaaGreatDoor

/- package plan: (*Plan).file. -/
namespace Go.Proofs.YtomckoldfdeidaaGreatDoor
open Go.RowKit

theorem wp_scope_again {P : Program} {a : Act} {w : World} {Q : Exit → Act → World → Prop} {c rest : Code} (l : Nat) (J : Act → World → Prop) (μ : Act → World → Nat) (hf : findLabel c l = some (Code.skip.seq rest))
    (pass : ∀ a w, J a w → rest.wp P (Exit.jump l (fun a' w' => J a' w' ∧ μ a' w' < μ a w) Q) a w)
    (first : (∀ a w, J a w → rest.wp P (Exit.jump l J Q) a w) → c.wp P (Exit.jump l J Q) a w) : (Code.scope c).wp P Q a w := by
  refine wp_scope_jumps l J μ hf (first fun a w h => Code.wp_mono ?_ (pass a w h)) fun a w h => wp_seq (wp_skip (pass a w h))
  intro e a w h
  cases e <;> first | exact h | exact ⟨h.1, h.2.1⟩

theorem infoPart : (Tryz.prog.info? 45).map (fun i => (i.zero, i.size, i.bytes)) = some (some (.agg #[.int .i64 0, .int .i64 0, .string ⟨#[]⟩]), 3, 32) := by kernel_rfl

def strSize : Value → Nat
  | .string s => s.size
  | _ => 0

set_option maxRecDepth 100000 in
set_option maxHeartbeats 3200000 in
theorem plan_file (k i : Nat) (A F : Addr) (W : Option Addr) (n c m d cw : Nat) (ways : List Int) (R b : Nat) (ps : List Pt) (x : It) (w : World)
    (hP : PlanAt R b (.slice (some A) n c) (.slice (some F) m d) ps w) (hk : k < m) (hi : i < n)
    (hF : w.cell? (F.add k) = some (.int .i64 i)) (hx : ItemAt w (A.add (i * 5)) x) (hW : IntsAt w W ways)
    (_hFb : F.block < R ∧ F.block ≠ b) (hWb : ∀ a, W = some a → a.block < R ∧ a.block ≠ b) (_hAb : A.block < R ∧ A.block ≠ b)
    (hways : ways ≠ []) (hwl : ways.length ≤ 1000000) (hsz : ps.length + x.data.size ≤ 1000000000) :
    Calls Tryz.prog 13 #[.pointer (some ⟨b, 0, none⟩), .int .i64 k, .slice W ways.length cw] w fun e w' =>
      e = .returned (.int .i64 (fileE k ways x.data).1) ∧ PlanAt R b (.slice (some A) n c) (.slice (some F) m d) (ps ++ (fileE k ways x.data).2) w' ∧ KeptR b R b w w' := by
  obtain ⟨i0, hi0, hz0, hz1, hz2⟩ := info_parts infoPart
  obtain ⟨vp, hb, hown, hbR, hRw⟩ := hP
  have c0 : w.cell? ⟨b, 0, none⟩ = some (.slice (some A) n c) := by rw [Lib.cell_of_heap hb]; rfl
  have c1 : w.cell? ⟨b, 1, none⟩ = some (.slice (some F) m d) := by rw [Lib.cell_of_heap hb]; rfl
  obtain ⟨x0, x1, x2, x3, x4⟩ := hx
  go_enter Tryz.func13, Tryz.ntmps13
  go_wp2
  refine wp_scope_again 0 (fun a' w' => ∃ (s : ByteArray) (ps' : List Pt) (u8 u9 u10 u11 u26 u27 u28 u29 u30 u31 u32 u33 u34 u35 u36 u37 u38 u39 u40 u41 u42 u43 u44 u45 u46 u47 u48 u49 u50 u51 u52 u53 u54 u55 u56 u57 u58 u59 u60 u61 u62 u63 u64 u65 u66 u67 : Value), a' = { tmps := List.toArray (.pointer (some ⟨b, 0, none⟩) :: .int .i64 k :: .slice W ways.length cw :: undef :: undef :: undef :: .int .i64 0 :: .string s :: u8 :: u9 :: u10 :: u11 :: .pointer (some ⟨b, 0, none⟩) :: .pointer (some ⟨b, 0, none⟩) :: .pointer (some ⟨b, 0, none⟩) :: .slice (some A) n c :: .pointer (some ⟨b, 0, none⟩) :: .pointer (some ⟨b, 0, none⟩) :: .pointer (some ⟨b, 1, none⟩) :: .slice (some F) m d :: .int .i64 k :: .pointer (some (F.add k)) :: .int .i64 i :: .pointer (some (A.add (i * 5))) :: .pointer (some ⟨(A.add (i * 5)).block, (A.add (i * 5)).off + 3, none⟩) :: .string x.data :: u26 :: u27 :: u28 :: u29 :: u30 :: u31 :: u32 :: u33 :: u34 :: u35 :: u36 :: u37 :: u38 :: u39 :: u40 :: u41 :: u42 :: u43 :: u44 :: u45 :: u46 :: u47 :: u48 :: u49 :: u50 :: u51 :: u52 :: u53 :: u54 :: u55 :: u56 :: u57 :: u58 :: u59 :: u60 :: u61 :: u62 :: u63 :: u64 :: u65 :: u66 :: u67 :: []), defers := [] } ∧ s.size ≤ x.data.size ∧ ps'.length + s.size ≤ 1000000000 ∧ (fileE k ways s).1 = (fileE k ways x.data).1 ∧ ps' ++ (fileE k ways s).2 = ps ++ (fileE k ways x.data).2 ∧ PlanAt R b (.slice (some A) n c) (.slice (some F) m d) ps' w' ∧ KeptR b R b w w') (fun a' _ => strSize (a'.tmps.getD 7 undef)) rfl ?_ ?_
  · rintro a' wr ⟨s, ps', u8, u9, u10, u11, u26, u27, u28, u29, u30, u31, u32, u33, u34, u35, u36, u37, u38, u39, u40, u41, u42, u43, u44, u45, u46, u47, u48, u49, u50, u51, u52, u53, u54, u55, u56, u57, u58, u59, u60, u61, u62, u63, u64, u65, u66, u67, rfl, hsx, hpl, hf1, hf2, hP, hK⟩
    obtain ⟨vp', hb', hown', hbR', hRw'⟩ := hP
    by_cases h0 : s.size = 0
    · have hz : s = ⟨#[]⟩ := by
        apply ByteArray.ext; apply Array.ext'; exact List.eq_nil_of_length_eq_zero (by rw [← Lib.size_eq]; exact h0)
      subst hz
      rw [fileE_nil k ways _ rfl] at hf1 hf2
      have HF1 := Lib.hid hf1; have HF2 := Lib.hid hf2; have HK := Lib.hid hK
      have hPP : PlanAt R b (.slice (some A) n c) (.slice (some F) m d) ps' wr := ⟨vp', hb', hown', hbR', hRw'⟩
      rw [List.append_nil] at hf2
      rw [hf2] at hPP
      have HPP := Lib.hid hPP
      clear hf1 hf2 hK hPP
      go_wp2
      simp only [Exit.jump]
      go_ret
      refine ⟨?_, HPP.out, HK.out⟩
      rw [← HF1.out]
      rfl
    · have hne : s.toList.isEmpty = false := by
        rw [ByteArray.toList_eq]
        cases hq : s.data.toList with
        | nil => exact absurd (by rw [Lib.size_eq, hq]; rfl) h0
        | cons a b => rfl
      have hfirst := plan_first s (by omega) wr
      obtain ⟨hn1, hn2, hn3⟩ := firstN_ok s (by omega)
      have hmore := fileE_more k ways s h0
      have hbad := fileE_bad k ways s h0
      obtain ⟨q, hq⟩ : ∃ q, q = firstN s := ⟨_, rfl⟩
      rw [← hq] at hfirst hn1 hn2 hn3 hmore hbad
      have hxt : (s.extract 0 q).data.toList = s.data.toList.take q := by rw [Lib.extract_data]; simp
      have hWr : IntsAt wr W ways := by
        intro j y hy
        obtain ⟨a, ha, hc⟩ := hW j y hy
        refine ⟨a, ha, ?_⟩
        rw [← hc]
        have hab := hWb a ha
        have e : (a.add j).block = a.block := by unfold Addr.add; split <;> rfl
        exact World.cell?_of_block (hK.keep _ (by rw [e]; exact hab.1) (by rw [e]; exact hab.2))
      have hbest := fun w' (hb : Below wr.heap.size wr w') => gain_Best (s.extract 0 q) ways W cw w' hways hwl (by rw [ByteArray.size_extract]; omega) (by rw [ByteArray.size_extract]; omega) (hWr.below (Nat.le_refl _) hb)
      have htell := fun way w' => plan_tell way (s.extract 0 q) (by rw [ByteArray.size_extract]; omega) w'
      rw [hxt] at hbest htell
      have HM := Lib.hid hmore; have HBD := Lib.hid hbad; have HK := Lib.hid hK; have HPL := Lib.hid hpl
      have HF1 := Lib.hid hf1; have HF2 := Lib.hid hf2
      clear hmore hbad hK hpl hf1 hf2 hq hxt hF _hFb hWb _hAb hsz x0 x1 x2 x3 x4 c0 c1 hb hown hW hWr
      go_wp2_with (go_at_call 21; with_reducible refine hfirst.mono ?_)
      rintro e w1 ⟨rfl, hb1⟩
      have hbest1 := hbest w1 hb1
      obtain ⟨way, hway⟩ : ∃ way, way = (bestE (s.data.toList.take q) ways).1 := ⟨_, rfl⟩
      obtain ⟨er, her⟩ : ∃ er, er = (bestE (s.data.toList.take q) ways).2 := ⟨_, rfl⟩
      rw [← hway, ← her] at hbest1
      have HWAY := Lib.hid hway; have HER := Lib.hid her
      clear hbest hfirst hway her
      go_wp2_with (go_at_call 22; with_reducible refine hbest1.mono ?_)
      rintro e w2 ⟨rfl, hb2⟩
      have HPP : Hid (PlanAt R b (.slice (some A) n c) (.slice (some F) m d) ps' w2) := PlanAt.below (PlanAt.below ⟨vp', hb', hown', hbR', hRw'⟩ hb1) hb2
      have HK2 : Hid (KeptR b R b w w2) := ⟨(HK.out.below.trans (hb1.mono (by omega))).trans (hb2.mono (by have := hb1.size; omega)), fun i hi hn => by
        rw [hb2.block i (by have := hb1.size; omega), hb1.block i (by omega), HK.out.keep i hi hn]⟩
      have hs2 : R ≤ w2.heap.size := by have := hb1.size; have := hb2.size; omega
      clear hb1 hb2 HK hbest1 hb' hown'
      by_cases he : er = 0
      · subst he
        go_wp2_with (go_at_call 23; with_reducible refine (htell _ _).mono ?_)
        rintro e w3 ⟨rfl, hb3⟩
        have hb4 := hb3.size
        have hF := HM.out HER.out.symm
        rw [← HWAY.out] at hF
        obtain ⟨tx, htx⟩ : ∃ tx, tx = tellL way (s.data.toList.take q) := ⟨_, rfl⟩
        rw [← htx] at hF ⊢
        have HF := Lib.hid hF
        obtain ⟨v3, hb5, hown5, _, hR5⟩ := HPP.out.below hb3
        have HK3 : Hid (KeptR b R b w w3) := ⟨HK2.out.below.trans (hb3.mono (by omega)), fun i hi hn => by
          rw [hb3.block i (by omega), HK2.out.keep i hi hn]⟩
        have c2 : w3.cell? ⟨b, 2, none⟩ = some v3 := by rw [Lib.cell_of_heap hb5]; rfl
        have hpl := HPL.out
        clear HPP HK2 hb3 hF htx htell
        go_wp2_with (at_builtin; refine wpList_append_lies _ rfl _ _ 29 rfl R 45 i0 (.agg #[.int .i64 0, .int .i64 0, .string ⟨#[]⟩]) 3 32 Tryz.underlying29 hi0 hz0 hz1 hz2 rfl (by decide) _ _ _ rfl (hown5.alloc _) ⟨w3.heap.size, 0, none⟩ 1 1 (Pt.cells ⟨k, way, tx⟩) rfl rfl ?c1 ?c2 (by decide) ?c3 ?c4 ?c5 _ rfl ?_)
        case c1 =>
          intro j u hj
          match j, hj with
          | 0, hj => simp [Pt.cells] at hj; subst hj; simp [Addr.add]
          | 1, hj => simp [Pt.cells] at hj; subst hj; simp [Addr.add]
          | 2, hj => simp [Pt.cells] at hj; subst hj; simp [Addr.add]
        case c2 => intro u hu; simp [Pt.cells] at hu; rcases hu with h | h | h <;> subst h <;> rfl
        case c3 => unfold maxLen; omega
        case c4 => omega
        case c5 => simp; omega
        intro g cap w4 hown6 hgrow hat hlt
        have hb6 : w4.heap[b]? = some (.cells #[.slice (some A) n c, .slice (some F) m d, v3] 31 (0, 0)) := by
          rw [hgrow.block b (by simp; omega) (fun e => by have := (hown5.lt b e.symm).1; omega), Lib.alloc_old w3 _ b (by omega)]
          exact hb5
        have d2 : w4.cell? ⟨b, 2, none⟩ = some v3 := by rw [Lib.cell_of_heap hb6]; rfl
        have f2 : w4.frozen? ⟨b, 2, none⟩ = false := Lib.frozen_of_heap hb6 2
        have hK4 : KeptR b R b w (w4.setCell ⟨b, 2, none⟩ (.slice (some ⟨g, 0, none⟩) (ps'.length + 1) cap)) := by
          refine ⟨((HK3.out.below.alloc (by omega) _).grown hgrow (by simp; omega) (fun k hk => by have := (hown5.lt k hk).1; omega)).setCell (p := ⟨b, 2, none⟩) (Nat.le_refl _) _, fun i hi hn => ?_⟩
          rw [Below.heap_setCell _ _ _ _ hn, hgrow.block i (by simp; omega) (fun e => by have := (hown5.lt i e.symm).1; omega), Lib.alloc_old w3 _ i (by omega), HK3.out.keep i hi hn]
        have hg : g ≠ b := by have := (hown6.lt g rfl).1; omega
        have hP4 : PlanAt R b (.slice (some A) n c) (.slice (some F) m d) (ps' ++ [⟨k, way, tx⟩]) (w4.setCell ⟨b, 2, none⟩ (.slice (some ⟨g, 0, none⟩) (ps'.length + 1) cap)) := by
          refine ⟨.slice (some ⟨g, 0, none⟩) (ps'.length + 1) cap, ?_, ?_, hbR, ?_⟩
          · have := Lib.heap_setCell_same (i := 2) hb6 (.slice (some ⟨g, 0, none⟩) (ps'.length + 1) cap)
            simpa using this
          · rw [partCells_snoc]
            rcases hown6 with ⟨a1, ⟨a2, _⟩ | ⟨g', cap', cur, hv, hl, hgg, q⟩⟩
            · exact absurd a2 (by simp)
            · obtain ⟨rfl, -, rfl⟩ : g = g' ∧ True ∧ cap = cap' := by injection hv with q1 q2 q3; injection q1 with q1; injection q1 with q1; exact ⟨q1, trivial, q3⟩
              refine ⟨by simpa using a1, .inr ⟨g, cap, cur, by simp, hl, by rw [Below.heap_setCell _ _ _ _ hg]; exact hgg, by simpa using q⟩⟩
          · have := hgrow.size; simp at this; simp [World.setCell]; omega
        have HP4 := Lib.hid hP4; have HK4 := Lib.hid hK4; have HPL2 : Hid (ps'.length + s.size ≤ 1000000000) := hpl
        clear hP4 hK4 hown6 hgrow hat hb6 hb5 hown5 HK3 hpl
        go_wp2
        go_step3
        refine ⟨rfl, ⟨s.extract q s.size, ps' ++ [⟨k, way, tx⟩], _, _, _, _, _, _, _, _, _, _, _, _, _, _, _, _, _, _, _, _, _, _, _, _, _, _, _, _, _, _, _, _, _, _, _, _, _, _, _, _, _, _, _, _, _, _, rfl, ?_, ?_, ?_, ?_, HP4.out, HK4.out⟩, ?_⟩
        · rw [ByteArray.size_extract]; omega
        · have := HPL2.out; rw [ByteArray.size_extract]; simp; omega
        · rw [← HF1.out, HF.out]
        · rw [← HF2.out, HF.out]; simp
        · show (s.extract q s.size).size < s.size
          rw [ByteArray.size_extract]; omega
      · have hE := HBD.out (by rw [← HER.out]; exact he)
        have HE := Lib.hid hE
        have hne2 : (er != 0) = true := by rw [bne_iff_ne]; exact he
        clear hE he
        go_wp2
        simp only [Exit.jump]
        go_ret
        have hF1 := HF1.out
        have hF2 := HF2.out
        rw [HE.out] at hF1 hF2
        rw [List.append_nil] at hF2
        refine ⟨?_, hF2 ▸ HPP.out, HK2.out⟩
        rw [← hF1, ← HER.out]
        rfl
  · intro hrest
    go_wp2
    go_quiet (fail)
    go_wp2
    go_step3
    refine (by assumption : ∀ (a : Act) (w : World), Code.wp _ _ _ a w → _) _ _ (hrest _ _ ?_)
    refine ⟨x.data, ps, _, _, _, _, _, _, _, _, _, _, _, _, _, _, _, _, _, _, _, _, _, _, _, _, _, _, _, _, _, _, _, _, _, _, _, _, _, _, _, _, _, _, _, _, _, _, rfl, Nat.le_refl _, hsz, rfl, rfl, ⟨vp, hb, hown, hbR, hRw⟩, ⟨⟨rfl, rfl, rfl, Nat.le_refl _, fun _ _ => rfl⟩, fun _ _ _ => rfl⟩⟩
end Go.Proofs.YtomckoldfdeidaaGreatDoor

/- PLAIN WORDS: a tree's plan. -/
namespace Go.Proofs.YtomckoldfdeidaaGreatDoor
open Go.RowKit

def isOwn (x : It) : Bool := x.kind == 1 && x.same.toList.isEmpty
def ownK (xs : List It) (k : Nat) : List Nat := (List.range k).filter fun i => (xs[i]?.map isOwn).getD false
def ownE (xs : List It) : List Nat := ownK xs xs.length
theorem ownK_yes {xs : List It} {k : Nat} {x : It} (h : xs[k]? = some x) (ho : isOwn x = true) : ownK xs (k + 1) = ownK xs k ++ [k] := by
  unfold ownK; rw [List.range_succ, List.filter_append]; simp [h, ho]
theorem ownK_no {xs : List It} {k : Nat} {x : It} (h : xs[k]? = some x) (ho : isOwn x = false) : ownK xs (k + 1) = ownK xs k := by
  unfold ownK; rw [List.range_succ, List.filter_append]; simp [h, ho]
theorem ownK_lt {xs : List It} {k i : Nat} (h : i ∈ ownK xs k) : i < k := by
  unfold ownK at h; simp at h; exact h.1
theorem ownK_len (xs : List It) (k : Nat) : (ownK xs k).length ≤ k := by
  unfold ownK; refine Nat.le_trans (List.length_filter_le _ _) ?_; simp

theorem fileE_len (k : Int) (ways : List Int) : ∀ (n : Nat) (s : ByteArray), s.size = n → (fileE k ways s).2.length ≤ n := by
  intro n
  induction n using Nat.strongRecOn with
  | _ n ih =>
    intro s hs
    by_cases h0 : s.size = 0
    · rw [fileE_nil k ways s h0]; simp
    · by_cases hb : (bestE (s.data.toList.take (firstN s)) ways).2 = 0
      · rw [fileE_more k ways s h0 hb]
        have hf := firstN_ok s (by omega)
        have hz : (s.extract (firstN s) s.size).size = s.size - firstN s := by rw [ByteArray.size_extract]; omega
        have := ih _ (by omega) (s.extract (firstN s) s.size) hz
        simp only [List.length_cons]; omega
      · rw [fileE_bad k ways s h0 hb]; simp

def datE (xs : List It) (i : Nat) : ByteArray := (xs[i]?.map (·.data)).getD ⟨#[]⟩
/-- The parts of some files, the first of them the file k. -/
def partsFrom (xs : List It) (ways : List Int) : Nat → List Nat → Int × List Pt
  | _, [] => (0, [])
  | k, i :: r => if (fileE k ways (datE xs i)).1 ≠ 0 then ((fileE k ways (datE xs i)).1, [])
    else ((partsFrom xs ways (k + 1) r).1, (fileE k ways (datE xs i)).2 ++ (partsFrom xs ways (k + 1) r).2)
def wayS (ways : List Int) : List Int := if ways = [] then [1, 2, 3] else ways
theorem wayS_ne (ways : List Int) : wayS ways ≠ [] := by unfold wayS; split <;> simp_all
/-- The error of a tree's plan, and its parts. -/
def makeE (xs : List It) (ways : List Int) : Int × List Pt := if (chkE xs).1 ≠ 0 then ((chkE xs).1, []) else partsFrom xs (wayS ways) 0 (ownE xs)
end Go.Proofs.YtomckoldfdeidaaGreatDoor

/- package plan: Make. -/
namespace Go.Proofs.YtomckoldfdeidaaGreatDoor
open Go.RowKit

theorem infoItem : (Tryz.prog.info? 42).map (fun i => (i.zero, i.size, i.bytes)) = some (some (.agg #[.string ⟨#[]⟩, .int .i64 0, .int .i64 0, .string ⟨#[]⟩, .string ⟨#[]⟩]), 5, 64) := by kernel_rfl
theorem infoInt : (Tryz.prog.info? 3).map (fun i => (i.zero, i.size, i.bytes)) = some (some (.int .i64 0), 1, 8) := by kernel_rfl

def It.cells (x : It) : List Value := [.string x.path, .int .i64 x.kind, .int .i64 x.mode, .string x.data, .string x.same]
def itemCells (xs : List It) : List Value := xs.flatMap It.cells

set_option maxRecDepth 100000 in
set_option maxHeartbeats 3200000 in
theorem plan_Make_bad (A W : Option Addr) (c cw : Nat) (xs : List It) (ways : List Int) (w : World) (hg : Glob w) (hx : ItemsAt w A xs) (hbad : (chkE xs).1 ≠ 0) :
    Calls Tryz.prog 7 #[.slice A xs.length c, .slice W ways.length cw] w fun e w' => e = .returned (.tuple #[.agg #[.slice none 0 0, .slice none 0 0, .slice none 0 0], .int .i64 (chkE xs).1]) ∧ Below w.heap.size w w' := by
  obtain ⟨er, her⟩ : ∃ er, er = (chkE xs).1 := ⟨_, rfl⟩
  have hchk := fun w' (hb : Below w.heap.size w w') => tree_Check A c xs w' (hg.below hb) (hx.below (Nat.le_refl _) hb)
  rw [← her] at hchk hbad ⊢
  have hne : (er != 0) = true := by rw [bne_iff_ne]; exact hbad
  have HC := Lib.hid hchk
  clear her hbad hchk
  go_enter Tryz.func7, Tryz.ntmps7
  go_wp2_with (go_at_call 12; with_reducible refine (HC.out _ ((Below.refl _ _).alloc (Nat.le_refl _) _)).mono ?_)
  rintro e w1 ⟨rfl, hb1⟩
  have hbk : w1.heap[w.heap.size]? = some (.cells #[.slice none 0 0, .slice none 0 0, .slice none 0 0] 31 (0, 0)) := by
    rw [hb1.block w.heap.size (by simp)]; exact (MapKept.heap_alloc w _).1
  have hbw : Below w.heap.size w w1 := ((Below.refl _ _).alloc (Nat.le_refl _) _).trans (hb1.mono (by simp))
  have k0 : w1.cell? ⟨w.heap.size, 0, none⟩ = some (.slice none 0 0) := by rw [Lib.cell_of_heap hbk]; rfl
  have k1 : w1.cell? ⟨w.heap.size, 1, none⟩ = some (.slice none 0 0) := by rw [Lib.cell_of_heap hbk]; rfl
  have k2 : w1.cell? ⟨w.heap.size, 2, none⟩ = some (.slice none 0 0) := by rw [Lib.cell_of_heap hbk]; rfl
  have f0 : w1.frozen? ⟨w.heap.size, 0, none⟩ = false := Lib.frozen_of_heap hbk 0
  have f1 : w1.frozen? ⟨w.heap.size, 1, none⟩ = false := Lib.frozen_of_heap hbk 1
  have f2 : w1.frozen? ⟨w.heap.size, 2, none⟩ = false := Lib.frozen_of_heap hbk 2
  clear hb1
  go_wp2
  have z0 := Lib.heap_setCell_same (i := 0) hbk (.slice none 0 0)
  have z1 := Lib.heap_setCell_same (i := 1) z0 (.slice none 0 0)
  have z2 := Lib.heap_setCell_same (i := 2) z1 (.slice none 0 0)
  have hbz : Below w.heap.size w (((w1.setCell ⟨w.heap.size, 0, none⟩ (.slice none 0 0)).setCell ⟨w.heap.size, 1, none⟩ (.slice none 0 0)).setCell ⟨w.heap.size, 2, none⟩ (.slice none 0 0)) :=
    ((hbw.setCell (p := ⟨w.heap.size, 0, none⟩) (Nat.le_refl _) _).setCell (p := ⟨w.heap.size, 1, none⟩) (Nat.le_refl _) _).setCell (p := ⟨w.heap.size, 2, none⟩) (Nat.le_refl _) _
  clear k0 k1 k2 f0 f1 f2 hbk hbw
  generalize ((w1.setCell ⟨w.heap.size, 0, none⟩ (.slice none 0 0)).setCell ⟨w.heap.size, 1, none⟩ (.slice none 0 0)).setCell ⟨w.heap.size, 2, none⟩ (.slice none 0 0) = wz at *
  have k0 : wz.cell? ⟨w.heap.size, 0, none⟩ = some (.slice none 0 0) := by rw [Lib.cell_of_heap z2]; rfl
  have k1 : wz.cell? ⟨w.heap.size, 1, none⟩ = some (.slice none 0 0) := by rw [Lib.cell_of_heap z2]; rfl
  have k2 : wz.cell? ⟨w.heap.size, 2, none⟩ = some (.slice none 0 0) := by rw [Lib.cell_of_heap z2]; rfl
  exact bodyPost_ret (v := .tuple #[.agg #[.slice none 0 0, .slice none 0 0, .slice none 0 0], .int .i64 er]) (by simp [results, Tryz.results7, go_sem, k0, k1, k2]) rfl ⟨rfl, hbz⟩
end Go.Proofs.YtomckoldfdeidaaGreatDoor

/- package plan: Make, of a tree that is right. -/
namespace Go.Proofs.YtomckoldfdeidaaGreatDoor
open Go.RowKit

theorem plan_file' (k i : Nat) (A F : Addr) (W : Option Addr) (n c m d nw cw : Nat) (ways : List Int) (R b : Nat) (ps : List Pt) (x : It) (w : World) (hnw : nw = ways.length)
    (hP : PlanAt R b (.slice (some A) n c) (.slice (some F) m d) ps w) (hk : k < m) (hi : i < n)
    (hF : w.cell? (F.add k) = some (.int .i64 i)) (hx : ItemAt w (A.add (i * 5)) x) (hW : IntsAt w W ways)
    (hFb : F.block < R ∧ F.block ≠ b) (hWb : ∀ a, W = some a → a.block < R ∧ a.block ≠ b) (hAb : A.block < R ∧ A.block ≠ b)
    (hways : ways ≠ []) (hwl : ways.length ≤ 1000000) (hsz : ps.length + x.data.size ≤ 1000000000) :
    Calls Tryz.prog 13 #[.pointer (some ⟨b, 0, none⟩), .int .i64 k, .slice W nw cw] w fun e w' =>
      e = .returned (.int .i64 (fileE k ways x.data).1) ∧ PlanAt R b (.slice (some A) n c) (.slice (some F) m d) (ps ++ (fileE k ways x.data).2) w' ∧ KeptR b R b w w' := by
  subst hnw
  exact plan_file k i A F W n c m d cw ways R b ps x w hP hk hi hF hx hW hFb hWb hAb hways hwl hsz

theorem itemCells_at : ∀ (xs : List It) (j : Nat) (u : Value), (itemCells xs)[j]? = some u → ∃ x, xs[j / 5]? = some x ∧ x.cells[j % 5]? = some u := by
  intro xs
  induction xs with
  | nil => intro j u h; simp [itemCells] at h
  | cons x r ih =>
    intro j u h
    have e : itemCells (x :: r) = x.cells ++ itemCells r := by simp [itemCells]
    rw [e] at h
    have hl : x.cells.length = 5 := rfl
    rcases Nat.lt_or_ge j 5 with q | q
    · rw [List.getElem?_append_left (by omega)] at h
      exact ⟨x, by rw [show j / 5 = 0 by omega]; rfl, by rw [show j % 5 = j by omega]; exact h⟩
    · rw [List.getElem?_append_right (by omega), hl] at h
      obtain ⟨y, h1, h2⟩ := ih (j - 5) u h
      exact ⟨y, by rw [show j / 5 = (j - 5) / 5 + 1 by omega]; exact h1, by rw [show j % 5 = (j - 5) % 5 by omega]; exact h2⟩
theorem itemCells_len (xs : List It) : (itemCells xs).length = xs.length * 5 := by
  unfold itemCells
  induction xs with
  | nil => rfl
  | cons a r ih => simp only [List.flatMap_cons, List.length_append, ih, It.cells, List.length_cons, List.length_nil]; omega
theorem itemCells_get {xs : List It} {i : Nat} {x : It} (h : xs[i]? = some x) (j : Nat) (hj : j < 5) : (itemCells xs)[i * 5 + j]? = x.cells[j]? := by
  induction xs generalizing i with
  | nil => simp at h
  | cons y r ih =>
    have e : itemCells (y :: r) = y.cells ++ itemCells r := by simp [itemCells]
    have hl : y.cells.length = 5 := rfl
    rw [e]
    cases i with
    | zero => simp at h; subst h; rw [List.getElem?_append_left (by omega)]; simp
    | succ i =>
      rw [List.getElem?_append_right (by omega), hl, show (i + 1) * 5 + j - 5 = i * 5 + j by omega]
      exact ih (by simpa using h)

theorem ItemsAt.cells {w : World} {a : Addr} {xs : List It} (h : ItemsAt w (some a) xs) (j : Nat) (u : Value) (hu : (itemCells xs)[j]? = some u) : w.cell? (a.add j) = some u := by
  obtain ⟨x, h1, h2⟩ := itemCells_at xs j u hu
  obtain ⟨a', ha, i0, i1, i2, i3, i4⟩ := h.2 _ _ h1
  obtain rfl : a = a' := Option.some.inj ha
  have e : ∀ q, j % 5 = q → 0 < q → a.add j = ⟨(a.add (j / 5 * 5)).block, (a.add (j / 5 * 5)).off + q, none⟩ := by
    intro q hq h0
    have : j ≠ 0 := by omega
    unfold Addr.add
    rw [if_neg this]
    split
    · rename_i h5; simp <;> omega
    · simp <;> omega
  have hm := Nat.mod_lt j (show 0 < 5 by decide)
  rcases (by omega : j % 5 = 0 ∨ j % 5 = 1 ∨ j % 5 = 2 ∨ j % 5 = 3 ∨ j % 5 = 4) with q | q | q | q | q
  · rw [q] at h2; simp [It.cells] at h2; subst h2
    rw [show j = j / 5 * 5 by omega]; exact i0
  · rw [q] at h2; simp [It.cells] at h2; subst h2
    rw [e 1 q (by decide)]; exact i1
  · rw [q] at h2; simp [It.cells] at h2; subst h2
    rw [e 2 q (by decide)]; exact i2
  · rw [q] at h2; simp [It.cells] at h2; subst h2
    rw [e 3 q (by decide)]; exact i3
  · rw [q] at h2; simp [It.cells] at h2; subst h2
    rw [e 4 q (by decide)]; exact i4
end Go.Proofs.YtomckoldfdeidaaGreatDoor

/- package plan: Make, of a tree that is right: the walk. -/
namespace Go.Proofs.YtomckoldfdeidaaGreatDoor
open Go.RowKit

/-- What lies behind a plan: the tree's copy, the files' places, the parts. -/
def PlanSaid (B : Nat) (w : World) (xs : List It) (ps : List Pt) (v : Value) : Prop :=
  ∃ (g cap : Nat) (vf vp : Value), v = .agg #[.slice (some ⟨g, 0, none⟩) xs.length cap, vf, vp] ∧ ItemsAt w (some ⟨g, 0, none⟩) xs ∧
    w.ownsRow B 3 1 vf (ownE xs).length ((ownE xs).map fun (i : Nat) => Value.int .i64 i) ∧ w.ownsRow B 45 3 vp ps.length (partCells ps)

def MadeSaid (B : Nat) (w : World) (xs : List It) (res : Int × List Pt) (v : Value) : Prop :=
  (res.1 = 0 → PlanSaid B w xs res.2 v) ∧ (res.1 ≠ 0 → v = .agg #[.slice none 0 0, .slice none 0 0, .slice none 0 0])
theorem zero3 {w : World} {r : Nat} (h : w.heap[r]? = some (.cells #[.slice none 0 0, .slice none 0 0, .slice none 0 0] 31 (0, 0))) (x y z : Value) :
    (((w.setCell ⟨r, 0, none⟩ x).setCell ⟨r, 1, none⟩ y).setCell ⟨r, 2, none⟩ z).heap[r]? = some (.cells #[x, y, z] 31 (0, 0)) := by
  have z0 := Lib.heap_setCell_same (i := 0) h x
  have z1 := Lib.heap_setCell_same (i := 1) z0 y
  have z2 := Lib.heap_setCell_same (i := 2) z1 z
  simpa using z2
theorem own_keep {w w' : World} {base : Nat} {e : TypeId} {size n : Nat} {v : Value} {xs : List Value} (h : w.ownsRow base e size v n xs) (hk : ∀ i, v.ownBlock = some i → w'.heap[i]? = w.heap[i]?) : w'.ownsRow base e size v n xs := by
  rcases h with ⟨a1, a2 | ⟨g, cap, cur, rfl, hl, hg, q⟩⟩
  · exact ⟨a1, .inl a2⟩
  · exact ⟨a1, .inr ⟨g, cap, cur, rfl, hl, by rw [hk g rfl]; exact hg, q⟩⟩
def intCells (l : List Nat) : List Value := l.map fun (i : Nat) => Value.int .i64 i
theorem KeptR.cell {B R b : Nat} {w w' : World} (h : KeptR B R b w w') {a : Addr} (h1 : a.block < R) (h2 : a.block ≠ b) : w'.cell? a = w.cell? a := World.cell?_of_block (h.keep _ h1 h2)
theorem ItemAt.kept {B R b : Nat} {w w' : World} {a : Addr} {x : It} (h : ItemAt w a x) (k : KeptR B R b w w') (h1 : a.block < R) (h2 : a.block ≠ b) : ItemAt w' a x := by
  obtain ⟨i0, i1, i2, i3, i4⟩ := h
  exact ⟨(k.cell h1 h2).trans i0, (k.cell (a := ⟨a.block, a.off + 1, none⟩) h1 h2).trans i1, (k.cell (a := ⟨a.block, a.off + 2, none⟩) h1 h2).trans i2, (k.cell (a := ⟨a.block, a.off + 3, none⟩) h1 h2).trans i3, (k.cell (a := ⟨a.block, a.off + 4, none⟩) h1 h2).trans i4⟩
theorem ItemsAt.kept {B R b : Nat} {w w' : World} {a : Addr} {xs : List It} (h : ItemsAt w (some a) xs) (k : KeptR B R b w w') (h1 : a.block < R) (h2 : a.block ≠ b) : ItemsAt w' (some a) xs := by
  refine ⟨h.1, fun i x hx => ?_⟩
  obtain ⟨a', ha, hi⟩ := h.2 i x hx
  obtain rfl : a = a' := Option.some.inj ha
  have e : (a.add (i * 5)).block = a.block := by unfold Addr.add; split <;> rfl
  exact ⟨a, rfl, hi.kept k (by rw [e]; exact h1) (by rw [e]; exact h2)⟩
theorem IntsAt.kept {B R b : Nat} {w w' : World} {W : Option Addr} {xs : List Int} (h : IntsAt w W xs) (k : KeptR B R b w w') (h1 : ∀ a, W = some a → a.block < R ∧ a.block ≠ b) : IntsAt w' W xs := by
  intro i x hx
  obtain ⟨a, ha, hc⟩ := h i x hx
  have e : (a.add i).block = a.block := by unfold Addr.add; split <;> rfl
  exact ⟨a, ha, (k.cell (by rw [e]; exact (h1 a ha).1) (by rw [e]; exact (h1 a ha).2)).trans hc⟩
theorem copy_items {w : World} {B g n cap : Nat} {xs : List It} (h : w.ownsRow B 42 5 (.slice (some ⟨g, 0, none⟩) n cap) n (itemCells xs)) (hl : xs.length ≤ 9223372036854775807) : ItemsAt w (some ⟨g, 0, none⟩) xs := by
  refine ⟨hl, fun i x hx => ⟨_, rfl, ?_⟩⟩
  have e0 : (⟨g, 0, none⟩ : Addr).add (i * 5) = ⟨g, i * 5, none⟩ := by unfold Addr.add; split <;> simp_all
  rw [e0]
  have c := fun j hj u hu => own_cells h (j := i * 5 + j) (u := u) ((itemCells_get hx j hj).trans hu)
  exact ⟨c 0 (by decide) _ rfl, c 1 (by decide) _ rfl, c 2 (by decide) _ rfl, c 3 (by decide) _ rfl, c 4 (by decide) _ rfl⟩
theorem add_block (a : Addr) (j : Nat) : (a.add j).block = a.block := by unfold Addr.add; split <;> rfl

set_option maxRecDepth 100000 in
set_option maxHeartbeats 3200000 in
theorem plan_Make_good (A W : Option Addr) (c cw : Nat) (xs : List It) (ways : List Int) (w : World) (hg : Glob w) (hx : ItemsAt w A xs) (hW : IntsAt w W ways) (hwl : ways.length ≤ 1000000)
    (hok : (chkE xs).1 = 0) (hdat : ∀ x ∈ xs, x.data.size ≤ 200000) (hne : xs ≠ []) (hxl : xs.length ≤ 4096) :
    Calls Tryz.prog 7 #[.slice A xs.length c, .slice W ways.length cw] w fun e w' => ∃ v, e = .returned (.tuple #[v, .int .i64 (partsFrom xs (wayS ways) 0 (ownE xs)).1]) ∧ Below w.heap.size w w' ∧
      MadeSaid w.heap.size w' xs (partsFrom xs (wayS ways) 0 (ownE xs)) v := by
  obtain ⟨i0, hi0, hz0, hz1, hz2⟩ := info_parts infoItem
  obtain ⟨j0, hj0, hy0, hy1, hy2⟩ := info_parts infoInt
  have hchk := fun w' (hb : Below w.heap.size w w') => tree_Check A c xs w' (hg.below hb) (hx.below (Nat.le_refl _) hb)
  rw [hok] at hchk
  have HC := Lib.hid hchk; have HX := Lib.hid hx; have HW := Lib.hid hW; have HG := Lib.hid hg; have HDAT := Lib.hid hdat
  have hxz : 0 < xs.length := List.length_pos_iff.2 hne
  have HNE := Lib.hid hne
  clear hchk hok hx hW hg hdat hne
  obtain ⟨ws, hws⟩ : ∃ ws, ws = wayS ways := ⟨_, rfl⟩
  obtain ⟨res, hres⟩ : ∃ res, res = partsFrom xs ws 0 (ownE xs) := ⟨_, rfl⟩
  rw [← hws, ← hres]
  have HWS := Lib.hid hws; have HRES := Lib.hid hres
  clear hws hres
  by_cases hw0 : ways = []
  · have hz : ((ways.length : Int) == 0) = true := by rw [hw0]; rfl
    have HW0 := Lib.hid hw0
    clear hw0
    go_enter Tryz.func7, Tryz.ntmps7
    go_wp2_with (go_at_call 12; with_reducible refine (HC.out _ ((Below.refl _ _).alloc (Nat.le_refl _) _)).mono ?_)
    rintro e w1 ⟨rfl, hb1⟩
    have hbk : w1.heap[w.heap.size]? = some (.cells #[.slice none 0 0, .slice none 0 0, .slice none 0 0] 31 (0, 0)) := by
      rw [hb1.block w.heap.size (by simp)]; exact (MapKept.heap_alloc w _).1
    have hbw : Below w.heap.size w w1 := ((Below.refl _ _).alloc (Nat.le_refl _) _).trans (hb1.mono (by simp))
    have hs1 : w.heap.size + 1 ≤ w1.heap.size := by have := hb1.size; simpa using this
    have hx1 := HX.out.below (Nat.le_refl _) hbw
    obtain ⟨a, rfl⟩ : ∃ a, A = some a := by
      obtain ⟨x, hx⟩ : ∃ x, xs[0]? = some x := ⟨_, List.getElem?_eq_getElem hxz⟩
      obtain ⟨a, ha, _⟩ := hx1.2 0 x hx
      exact ⟨a, ha⟩
    have HBK := Lib.hid hbk; have HBW := Lib.hid hbw
    have hx1a := hx1.below (Nat.le_refl _) ((Below.refl w1.heap.size w1).alloc (Nat.le_refl _) (.cells #[.int .i64 1, .int .i64 2, .int .i64 3] 3))
    have HCELLS := Lib.hid hx1a.cells
    clear hx1a
    clear hb1 hbk hbw hx1
    have hown0 : (w1.alloc (.cells #[.int .i64 1, .int .i64 2, .int .i64 3] 3)).ownsRow (w1.heap.size + 1) 42 5 (.slice none 0 0) 0 [] := ⟨rfl, .inl ⟨rfl, rfl⟩⟩
    go_wp2_with (at_builtin; go_loud (refine wpList_append_lies _ rfl _ _ 23 rfl (w1.heap.size + 1) 42 i0 (.agg #[.string ⟨#[]⟩, .int .i64 0, .int .i64 0, .string ⟨#[]⟩, .string ⟨#[]⟩]) 5 64 Tryz.underlying23 hi0 hz0 hz1 hz2 rfl (by decide) _ 0 [] rfl hown0 a xs.length c (itemCells xs) rfl (itemCells_len xs) ?c1 ?c2 hxz ?c3 ?c4 (by simp) _ rfl ?_))
    case c1 => exact HCELLS.out
    case c2 =>
      intro u hu
      obtain ⟨x, _, hx⟩ := List.mem_flatMap.1 hu
      simp [It.cells] at hx
      rcases hx with h | h | h | h | h <;> subst h <;> rfl
    case c3 => unfold maxLen; omega
    case c4 => omega
    intro g cap w2 hown2 hgrow hat hlt2
    have hg1 : w1.heap.size + 1 ≤ g := (hown2.lt g rfl).1
    have hgw : w.heap.size < g := by omega
    have hab : a.block < w.heap.size := by
      obtain ⟨x, hx⟩ : ∃ x, xs[0]? = some x := ⟨_, List.getElem?_eq_getElem hxz⟩
      obtain ⟨a', ha, h5, _⟩ := HX.out.2 0 x hx
      obtain rfl : a = a' := Option.some.inj ha
      have := World.block_lt_of_cell? w _ h5
      rw [add_block] at this; exact this
    have hbel2 : Below w.heap.size w w2 := (HBW.out.alloc (by omega) (.cells #[.int .i64 1, .int .i64 2, .int .i64 3] 3)).grown hgrow (by simp; omega) (fun k hk => by simp [Value.ownBlock] at hk)
    have hse : ws = [1, 2, 3] := by rw [HWS.out]; unfold wayS; rw [if_pos HW0.out]
    have hs2 := hgrow.size
    simp at hs2
    have hblk : w2.heap[w1.heap.size]? = some (.cells #[.int .i64 1, .int .i64 2, .int .i64 3] 3) := by
      rw [hgrow.block w1.heap.size (by simp) (by simp [Value.ownBlock])]; exact (MapKept.heap_alloc w1 _).1
    have hwx2 : IntsAt w2 (some ⟨w1.heap.size, 0, none⟩) ws := by
      rw [hse]
      intro i x hx
      refine ⟨_, rfl, ?_⟩
      match i, hx with
      | 0, hx => simp at hx; subst hx; simp [Addr.add, World.cell?, hblk]
      | 1, hx => simp at hx; subst hx; simp [Addr.add, World.cell?, hblk]
      | 2, hx => simp at hx; subst hx; simp [Addr.add, World.cell?, hblk]
    have hbr2 : w2.heap[w.heap.size]? = some (.cells #[.slice none 0 0, .slice none 0 0, .slice none 0 0] 31 (0, 0)) := by
      rw [hgrow.block w.heap.size (by simp; omega) (by simp [Value.ownBlock]), Lib.alloc_old w1 _ _ (by omega)]; exact HBK.out
    have hnw2 : 3 = ws.length := by rw [hse]; rfl
    have hwlen : ws.length ≤ 1000000 := by omega
    have hwb : ∀ q, (some ⟨w1.heap.size, 0, none⟩ : Option Addr) = some q → q.block < w2.heap.size := by intro q hq; cases hq; show w1.heap.size < _; omega
    have HNW := Lib.hid hnw2; have HWX := Lib.hid hwx2; have HBR := Lib.hid hbr2; have HB2 := Lib.hid hbel2; have HWB := Lib.hid hwb; have HO2 := Lib.hid hown2
    clear hnw2 hwx2 hbr2 hbel2 hwb hown2 hgrow hat hse hblk HBK HBW HCELLS hown0
    go_wp2
    obtain ⟨vt, hvt⟩ : ∃ vt, vt = Value.slice (some ⟨g, 0, none⟩) xs.length cap := ⟨_, rfl⟩
    obtain ⟨b, hb⟩ : ∃ b, b = w2.heap.size := ⟨_, rfl⟩
    obtain ⟨w7, hw7⟩ : ∃ w7, w7 = w2.alloc (.cells #[.slice (some ⟨g, 0, none⟩) xs.length cap, .slice none 0 0, .slice none 0 0] 31) := ⟨_, rfl⟩
    have hbp7 : w7.heap[b]? = some (.cells #[vt, .slice none 0 0, .slice none 0 0] 31 (0, 0)) := by rw [hw7, hb, hvt]; exact (MapKept.heap_alloc w2 _).1
    have hs7 : b + 1 ≤ w7.heap.size := by rw [hw7, hb]; simp
    have hB7 : Below w.heap.size w w7 := by rw [hw7]; exact HB2.out.alloc (by omega) _
    have hx7 : ItemsAt w7 (some a) xs := HX.out.below (Nat.le_refl _) hB7
    have hwx7 : IntsAt w7 (some ⟨w1.heap.size, 0, none⟩) ws := by rw [hw7]; exact HWX.out.below (B := w2.heap.size) (Nat.le_refl _) ((Below.refl _ _).alloc (Nat.le_refl _) _)
    have ho7 : w7.ownsRow (w1.heap.size + 1) 42 5 vt xs.length (itemCells xs) := by rw [hw7, hvt]; have := HO2.out.alloc (.cells #[.slice (some ⟨g, 0, none⟩) xs.length cap, .slice none 0 0, .slice none 0 0] 31); simpa using this
    have hbr7 : w7.heap[w.heap.size]? = some (.cells #[.slice none 0 0, .slice none 0 0, .slice none 0 0] 31 (0, 0)) := by rw [hw7, Lib.alloc_old w2 _ _ (by omega)]; exact HBR.out
    have hwbb : ∀ q, (some ⟨w1.heap.size, 0, none⟩ : Option Addr) = some q → q.block < b := fun q hq => by have := HWB.out q hq; omega
    have HWB2 := Lib.hid hwbb
    clear hwbb
    rw [← hw7, ← hvt, ← hb]
    have hbg : g < b := by rw [hb]; exact hlt2
    have hbw : w.heap.size < b := by omega
    have HBP := Lib.hid hbp7; have HB7 := Lib.hid hB7; have HX7 := Lib.hid hx7; have HWX7 := Lib.hid hwx7; have HO7 := Lib.hid ho7; have HBR7 := Lib.hid hbr7; have HVT := Lib.hid hvt
    clear hbp7 hB7 hx7 hwx7 ho7 hbr7 hw7 hvt hb HB2 HWX HO2 HBR hlt2 hs2 hs1
    go_loopw [31] (fun i wr => ∃ (k : Nat) (vf : Value), k ≤ xs.length ∧ i = .int .i64 k ∧ wr.heap[b]? = some (.cells #[vt, vf, .slice none 0 0] 31 (0, 0)) ∧ wr.ownsRow (b + 1) 3 1 vf (ownK xs k).length (intCells (ownK xs k)) ∧ KeptR b (b + 1) b w7 wr ∧ b + 1 ≤ wr.heap.size) (fun i _ => xs.length - (intOf i).toNat)
    case atStart => exact ⟨0, .slice none 0 0, Nat.zero_le _, rfl, HBP.out, ⟨rfl, .inl ⟨rfl, rfl⟩⟩, ⟨Below.refl _ _, fun _ _ _ => rfl⟩, hs7⟩
    case round =>
      obtain ⟨k, vf, hk, rfl, hbp, hown, hkp, hsr⟩ := hrel
      by_cases hlt : k < xs.length
      · obtain ⟨x, hxk⟩ : ∃ x, xs[k]? = some x := ⟨_, List.getElem?_eq_getElem hlt⟩
        obtain ⟨a', ha, hit⟩ := HX7.out.2 k x hxk
        obtain rfl : a = a' := Option.some.inj ha
        obtain ⟨q0, q1, q2, q3, q4⟩ := hit.kept hkp (by rw [add_block]; omega) (by rw [add_block]; omega)
        have hkl := ownK_len xs k
        have c1 : wr.cell? ⟨b, 1, none⟩ = some vf := by rw [Lib.cell_of_heap hbp]; rfl
        have HXK := Lib.hid hxk; have HBPr := Lib.hid hbp; have HKP := Lib.hid hkp
        clear hxk hbp hkp hit ha
        have hnot : isOwn x = false → KeptR b (b + 1) b w7 (wr.alloc (.cells #[.string x.path, .int .i64 x.kind, .int .i64 x.mode, .string x.data, .string x.same] 42)) := fun _ =>
          ⟨HKP.out.below.alloc (by omega) _, fun i hi hn => by rw [Lib.alloc_old wr _ i (by omega)]; exact HKP.out.keep i hi hn⟩
        have HNOT := Lib.hid hnot
        have hb7 : (wr.alloc (.cells #[.string x.path, .int .i64 x.kind, .int .i64 x.mode, .string x.data, .string x.same] 42)).heap[b]? = some (.cells #[vt, vf, .slice none 0 0] 31 (0, 0)) := by rw [Lib.alloc_old wr _ b (by omega)]; exact HBPr.out
        have HB7' := Lib.hid hb7
        clear hnot hb7
        by_cases hk1 : x.kind = 1
        · have hkt : (x.kind == 1) = true := by rw [beq_iff_eq]; exact hk1
          have HK1 := Lib.hid hk1
          clear hk1
          cases hse : x.same.toList.isEmpty
          · have hno : isOwn x = false := by unfold isOwn; rw [hse]; simp
            have HNO := Lib.hid hno
            clear hno
            go_wp2
            go_roundw
            case rel => exact ⟨k + 1, vf, by omega, by go_num, HB7'.out, by rw [ownK_no HXK.out HNO.out]; exact hown.alloc _, HNOT.out HNO.out, by simp; omega⟩
            case measure => simp [intOf]; omega
          · have hyes : isOwn x = true := by unfold isOwn; rw [hse, hkt]; rfl
            have HYES := Lib.hid hyes
            clear hyes
            have c1a : (wr.alloc (.cells #[.string x.path, .int .i64 x.kind, .int .i64 x.mode, .string x.data, .string x.same] 42)).cell? ⟨b, 1, none⟩ = some vf := by rw [Lib.cell_of_heap HB7'.out]; rfl
            have hw3 : (wr.alloc (.cells #[.string x.path, .int .i64 x.kind, .int .i64 x.mode, .string x.data, .string x.same] 42)).heap.size = wr.heap.size + 1 := by simp
            have hown3 := hown.alloc (.cells #[.string x.path, .int .i64 x.kind, .int .i64 x.mode, .string x.data, .string x.same] 42)
            have HOWN3 := Lib.hid hown3; have HW3 := Lib.hid hw3
            clear hown3 hw3 hown
            go_wp2_with (at_builtin; go_loud (refine wpList_append_lies _ rfl _ _ 24 rfl (b + 1) 3 j0 (.int .i64 0) 1 8 Tryz.underlying24 hj0 hy0 hy1 hy2 rfl (by decide) _ _ _ rfl (HOWN3.out.alloc _) ⟨wr.heap.size + 1, 0, none⟩ 1 1 [.int .i64 k] rfl rfl ?c1 ?c2 (by decide) ?c3 ?c4 ?c5 _ rfl ?_))
            case c1 =>
              intro j u hj
              match j, hj with
              | 0, hj => simp at hj; subst hj; simp [Addr.add]
            case c2 => intro u hu; simp at hu; subst hu; rfl
            case c3 => unfold maxLen; omega
            case c4 => omega
            case c5 => simp; omega
            intro g2 cap2 w4 hown4 hgrow hat hlt4
            have hb4 : w4.heap[b]? = some (.cells #[vt, vf, .slice none 0 0] 31 (0, 0)) := by
              rw [hgrow.block b (by simp; omega) (fun e => by have := (HOWN3.out.lt b e.symm).1; omega), Lib.alloc_old _ _ b (by simp; omega)]
              exact HB7'.out
            have d1 : w4.cell? ⟨b, 1, none⟩ = some vf := by rw [Lib.cell_of_heap hb4]; rfl
            have f1 : w4.frozen? ⟨b, 1, none⟩ = false := Lib.frozen_of_heap hb4 1
            have hs4 := hgrow.size
            have hg2 : g2 ≠ b := by have := (hown4.lt g2 rfl).1; omega
            have hK4 : KeptR b (b + 1) b w7 (w4.setCell ⟨b, 1, none⟩ (.slice (some ⟨g2, 0, none⟩) ((ownK xs k).length + 1) cap2)) := by
              refine ⟨(((HKP.out.below.alloc (by omega) _).alloc (by simp; omega) _).grown hgrow (by simp; omega) (fun k hk => by have := (HOWN3.out.lt k hk).1; omega)).setCell (p := ⟨b, 1, none⟩) (Nat.le_refl _) _, fun i hi hn => ?_⟩
              rw [Below.heap_setCell _ _ _ _ hn, hgrow.block i (by simp; omega) (fun e => by have := (HOWN3.out.lt i e.symm).1; omega), Lib.alloc_old _ _ i (by simp; omega), Lib.alloc_old wr _ i (by omega), HKP.out.keep i hi hn]
            have hb5 : (w4.setCell ⟨b, 1, none⟩ (.slice (some ⟨g2, 0, none⟩) ((ownK xs k).length + 1) cap2)).heap[b]? = some (.cells #[vt, .slice (some ⟨g2, 0, none⟩) ((ownK xs k).length + 1) cap2, .slice none 0 0] 31 (0, 0)) := by
              have := Lib.heap_setCell_same (i := 1) hb4 (.slice (some ⟨g2, 0, none⟩) ((ownK xs k).length + 1) cap2)
              simpa using this
            have ho5 : (w4.setCell ⟨b, 1, none⟩ (.slice (some ⟨g2, 0, none⟩) ((ownK xs k).length + 1) cap2)).ownsRow (b + 1) 3 1 (.slice (some ⟨g2, 0, none⟩) ((ownK xs k).length + 1) cap2) (ownK xs (k + 1)).length (intCells (ownK xs (k + 1))) := by
              rw [ownK_yes HXK.out HYES.out]
              rcases hown4 with ⟨a1, ⟨a2, _⟩ | ⟨g', cap', cur, hv, hl, hgg, q⟩⟩
              · exact absurd a2 (by simp)
              · obtain ⟨rfl, -, rfl⟩ : g2 = g' ∧ True ∧ cap2 = cap' := by injection hv with q1 q2 q3; injection q1 with q1; injection q1 with q1; exact ⟨q1, trivial, q3⟩
                refine ⟨by simp [intCells], .inr ⟨g2, cap2, cur, by simp, hl, by rw [Below.heap_setCell _ _ _ _ hg2]; exact hgg, by simpa [intCells] using q⟩⟩
            have HK4 := Lib.hid hK4; have HB5 := Lib.hid hb5; have HO5 := Lib.hid ho5
            simp at hs4
            clear hK4 hb5 ho5 hb4 hown4 hgrow hat HKP HOWN3 HB7' HBPr HNOT c1 c1a
            go_wp2
            go_roundw
            case rel => exact ⟨k + 1, _, by omega, by go_num, HB5.out, HO5.out, HK4.out, by simp [World.setCell]; omega⟩
            case measure => simp [intOf]; omega
        · have hkt : (x.kind == 1) = false := by rw [beq_eq_false_iff_ne]; exact hk1
          have hno : isOwn x = false := by unfold isOwn; rw [hkt]; simp
          have HNO := Lib.hid hno
          clear hno hk1
          go_wp2
          go_roundw
          case rel => exact ⟨k + 1, vf, by omega, by go_num, HB7'.out, by rw [ownK_no HXK.out HNO.out]; exact hown.alloc _, HNOT.out HNO.out, by simp; omega⟩
          case measure => simp [intOf]; omega
      · have hkn : k = xs.length := by omega
        subst hkn
        obtain ⟨m, hm⟩ : ∃ m, m = (ownE xs).length := ⟨_, rfl⟩
        obtain ⟨Fo, d, hvf, hFo⟩ : ∃ (Fo : Option Addr) (d : Nat), vf = .slice Fo m d ∧ ∀ (j i : Nat), (ownE xs)[j]? = some i → ∃ F : Addr, Fo = some F ∧ b < F.block ∧ wr.cell? (F.add j) = some (.int .i64 i) := by
          rcases hown.2 with ⟨h1, h2⟩ | ⟨gf, cf, cur, h1, h2, _⟩
          · have h0 : (ownE xs).length = 0 := h2
            exact ⟨none, 0, by rw [hm, h0]; exact h1, fun j i hj => by rw [List.eq_nil_of_length_eq_zero h0] at hj; simp at hj⟩
          · subst h1
            refine ⟨some ⟨gf, 0, none⟩, cf, by rw [hm]; rfl, fun j i hj => ⟨_, rfl, by show b < gf; omega, ?_⟩⟩
            have := own_cells hown (j := j) (u := .int .i64 i) (by show ((ownE xs).map fun (i : Nat) => Value.int .i64 i)[j]? = _; rw [List.getElem?_map, hj]; rfl)
            rw [show (⟨gf, 0, none⟩ : Addr).add j = ⟨gf, j, none⟩ by unfold Addr.add; split <;> simp_all]
            exact this
        subst hvf
        have hvt := HVT.out
        subst hvt
        obtain ⟨wl, hwl2⟩ : ∃ wl, wl = wr := ⟨_, rfl⟩
        subst hwl2
        have hP0 : PlanAt wl.heap.size b (.slice (some ⟨g, 0, none⟩) xs.length cap) (.slice Fo m d) [] wl := ⟨.slice none 0 0, hbp, ⟨rfl, .inl ⟨rfl, rfl⟩⟩, by omega, Nat.le_refl _⟩
        have c1 : wl.cell? ⟨b, 1, none⟩ = some (.slice Fo m d) := by rw [Lib.cell_of_heap hbp]; rfl
        have HFO := Lib.hid hFo; have HP0 := Lib.hid hP0; have HKP := Lib.hid hkp; have HOWN := Lib.hid hown
        have HM := Lib.hid hm
        have hmx : m ≤ 4096 := by have := ownK_len xs xs.length; rw [hm]; unfold ownE; omega
        clear hFo hP0 hkp hown hm hbp HVT
        go_wp2
        go_loopw [54] (fun i w5 => ∃ (j : Nat) (ps : List Pt), j ≤ m ∧ i = .int .i64 j ∧ (partsFrom xs ws j ((ownE xs).drop j)).1 = res.1 ∧ ps ++ (partsFrom xs ws j ((ownE xs).drop j)).2 = res.2 ∧ ps.length ≤ j * 200000 ∧ PlanAt wl.heap.size b (.slice (some ⟨g, 0, none⟩) xs.length cap) (.slice Fo m d) ps w5 ∧ KeptR b wl.heap.size b wl w5) (fun i _ => m - (intOf i).toNat)
        case atStart => exact ⟨0, [], Nat.zero_le _, rfl, by rw [HRES.out]; rfl, by rw [HRES.out]; rfl, Nat.zero_le _, HP0.out, ⟨Below.refl _ _, fun _ _ _ => rfl⟩⟩
        case round =>
          obtain ⟨j, ps, hj, rfl, hr1, hr2, hpl, hP, hK⟩ := hrel
          by_cases hlt : j < m
          · obtain ⟨i, hji⟩ : ∃ i, (ownE xs)[j]? = some i := ⟨_, List.getElem?_eq_getElem (by rw [← HM.out]; exact hlt)⟩
            obtain ⟨F, rfl, hFb, hFc⟩ := HFO.out j i hji
            have hin : i < xs.length := ownK_lt (List.mem_of_getElem? hji)
            obtain ⟨x, hxi⟩ : ∃ x, xs[i]? = some x := ⟨_, List.getElem?_eq_getElem hin⟩
            have hdx : x.data.size ≤ 200000 := HDAT.out x (List.mem_of_getElem? hxi)
            have hFl := World.block_lt_of_cell? wl _ hFc
            rw [add_block] at hFl
            have hsl : b + 1 ≤ wl.heap.size := hsr
            have hcp : ItemsAt wr (some ⟨g, 0, none⟩) xs := ((copy_items HO7.out (by omega)).kept HKP.out (by show g < _; omega) (by show g ≠ _; omega)).kept hK (by show g < _; omega) (by show g ≠ _; omega)
            obtain ⟨ga, hga, hit⟩ := hcp.2 i x hxi
            obtain rfl : (⟨g, 0, none⟩ : Addr) = ga := Option.some.inj hga
            have hwb := HWB2.out
            have hww : IntsAt wr (some ⟨w1.heap.size, 0, none⟩) ws := (HWX7.out.kept HKP.out (fun q hq => by have := hwb q hq; omega)).kept hK (fun q hq => by have := hwb q hq; omega)
            have hfile := plan_file' j i ⟨g, 0, none⟩ F (some ⟨w1.heap.size, 0, none⟩) xs.length cap m d 3 3 ws wl.heap.size b ps x wr HNW.out hP hlt hin ((hK.cell (by rw [add_block]; exact hFl) (by rw [add_block]; omega)).trans hFc) hit hww ⟨hFl, by omega⟩ (fun q hq => by have := hwb q hq; omega) ⟨by show g < _; omega, by show g ≠ _; omega⟩ (by rw [HWS.out]; exact wayS_ne ways) hwlen (by have : j * 200000 ≤ 4096 * 200000 := Nat.mul_le_mul_right _ (by omega); omega)
            have hd : (ownE xs).drop j = i :: (ownE xs).drop (j + 1) := by
              have hl : j < (ownE xs).length := by rw [← HM.out]; exact hlt
              rw [List.drop_eq_getElem_cons hl]
              rw [List.getElem?_eq_getElem hl] at hji
              rw [Option.some.inj hji]
            have hde : datE xs i = x.data := by unfold datE; rw [hxi]; rfl
            rw [hd] at hr1 hr2
            unfold partsFrom at hr1 hr2
            rw [hde] at hr1 hr2
            have hlen := fileE_len j ws _ x.data rfl
            obtain ⟨fe, hfe⟩ : ∃ fe, fe = fileE j ws x.data := ⟨_, rfl⟩
            rw [← hfe] at hfile hr1 hr2 hlen
            have HK := Lib.hid hK; have HFE := Lib.hid hfe
            clear hK hP hcp hit hww hFc hxi hji hd hde hga hfe hwb
            by_cases he : fe.1 = 0
            · rw [if_neg (by simp [he])] at hr1 hr2
              have HR1 := Lib.hid hr1; have HR2 := Lib.hid hr2
              rw [he] at hfile
              clear hr1 hr2 he
              go_wp2_with (go_at_call 13; with_reducible refine hfile.mono ?_)
              intro e w6 he6 hP6 hK6
              subst he6
              have HP6 := Lib.hid hP6; have HK6 := Lib.hid (HK.out.trans hK6)
              clear hP6 hK6 HK hfile
              go_wp2
              go_roundw
              case rel => exact ⟨j + 1, _, by omega, by go_num, HR1.out, by rw [List.append_assoc]; exact HR2.out, by simp; omega, HP6.out, HK6.out⟩
              case measure => simp [intOf]; omega
            · rw [if_pos he] at hr1
              have HR1 := Lib.hid hr1
              obtain ⟨er, her⟩ : ∃ er, er = fe.1 := ⟨_, rfl⟩
              rw [← her] at hfile
              have hne2 : (er != 0) = true := by rw [bne_iff_ne, her]; exact he
              have HER := Lib.hid her
              clear hr1 hr2 he her
              go_wp2_with (go_at_call 13; with_reducible refine hfile.mono ?_)
              intro e w6 he6 hP6 hK6
              subst he6
              have hbr6 : w6.heap[w.heap.size]? = some (.cells #[.slice none 0 0, .slice none 0 0, .slice none 0 0] 31 (0, 0)) := by
                rw [hK6.keep _ (by omega) (by omega), HK.out.keep _ (by omega) (by omega), HKP.out.keep _ (by omega) (by omega)]; exact HBR7.out
              have hbel6 : Below w.heap.size w w6 := ((HB7.out.trans (HKP.out.below.mono (by omega))).trans (HK.out.below.mono (by omega))).trans (hK6.below.mono (by omega))
              have k0 : w6.cell? ⟨w.heap.size, 0, none⟩ = some (.slice none 0 0) := by rw [Lib.cell_of_heap hbr6]; rfl
              have k1 : w6.cell? ⟨w.heap.size, 1, none⟩ = some (.slice none 0 0) := by rw [Lib.cell_of_heap hbr6]; rfl
              have k2 : w6.cell? ⟨w.heap.size, 2, none⟩ = some (.slice none 0 0) := by rw [Lib.cell_of_heap hbr6]; rfl
              have f0 : w6.frozen? ⟨w.heap.size, 0, none⟩ = false := Lib.frozen_of_heap hbr6 0
              have f1 : w6.frozen? ⟨w.heap.size, 1, none⟩ = false := Lib.frozen_of_heap hbr6 1
              have f2 : w6.frozen? ⟨w.heap.size, 2, none⟩ = false := Lib.frozen_of_heap hbr6 2
              have HBR6 := Lib.hid hbr6; have HBEL6 := Lib.hid hbel6
              clear hP6 hK6 hbr6 hbel6 hfile c1
              go_wp2
              have z2 := zero3 HBR6.out (.slice none 0 0) (.slice none 0 0) (.slice none 0 0)
              have hbz := ((HBEL6.out.setCell (p := ⟨w.heap.size, 0, none⟩) (Nat.le_refl _) (.slice none 0 0)).setCell (p := ⟨w.heap.size, 1, none⟩) (Nat.le_refl _) (.slice none 0 0)).setCell (p := ⟨w.heap.size, 2, none⟩) (Nat.le_refl _) (.slice none 0 0)
              clear k0 k1 k2 f0 f1 f2 HBR6 HBEL6
              generalize ((w6.setCell ⟨w.heap.size, 0, none⟩ (.slice none 0 0)).setCell ⟨w.heap.size, 1, none⟩ (.slice none 0 0)).setCell ⟨w.heap.size, 2, none⟩ (.slice none 0 0) = wz at *
              have k0 : wz.cell? ⟨w.heap.size, 0, none⟩ = some (.slice none 0 0) := by rw [Lib.cell_of_heap z2]; rfl
              have k1 : wz.cell? ⟨w.heap.size, 1, none⟩ = some (.slice none 0 0) := by rw [Lib.cell_of_heap z2]; rfl
              have k2 : wz.cell? ⟨w.heap.size, 2, none⟩ = some (.slice none 0 0) := by rw [Lib.cell_of_heap z2]; rfl
              have hre : res.1 = er := by rw [← HR1.out, HER.out]
              refine bodyPost_ret (v := .tuple #[.agg #[.slice none 0 0, .slice none 0 0, .slice none 0 0], .int .i64 er]) (by simp [results, Tryz.results7, go_sem, k0, k1, k2]) rfl ⟨.agg #[.slice none 0 0, .slice none 0 0, .slice none 0 0], by rw [hre], hbz, fun q => ?_, fun _ => rfl⟩
              rw [bne_iff_ne] at hne2
              exact absurd (hre.symm.trans q) hne2
          · have hjm : j = m := by omega
            subst hjm
            rw [show (ownE xs).drop j = [] by rw [HM.out]; exact List.drop_length] at hr1 hr2
            unfold partsFrom at hr1 hr2
            rw [List.append_nil] at hr2
            obtain ⟨vp, hbp, hop, _, hsl⟩ := hP
            obtain ⟨Po, np, dp, rfl⟩ : ∃ (Po : Option Addr) (np dp : Nat), vp = .slice Po np dp := by
              rcases hop.2 with ⟨h, _⟩ | ⟨gp, cp, cur, h, _⟩
              · exact ⟨none, 0, 0, h⟩
              · exact ⟨_, _, _, h⟩
            have hbr6 : wr.heap[w.heap.size]? = some (.cells #[.slice none 0 0, .slice none 0 0, .slice none 0 0] 31 (0, 0)) := by
              rw [hK.keep _ (by omega) (by omega), HKP.out.keep _ (by omega) (by omega)]; exact HBR7.out
            have hbel6 : Below w.heap.size w wr := (HB7.out.trans (HKP.out.below.mono (by omega))).trans (hK.below.mono (by omega))
            have k0 : wr.cell? ⟨w.heap.size, 0, none⟩ = some (.slice none 0 0) := by rw [Lib.cell_of_heap hbr6]; rfl
            have k1 : wr.cell? ⟨w.heap.size, 1, none⟩ = some (.slice none 0 0) := by rw [Lib.cell_of_heap hbr6]; rfl
            have k2 : wr.cell? ⟨w.heap.size, 2, none⟩ = some (.slice none 0 0) := by rw [Lib.cell_of_heap hbr6]; rfl
            have f0 : wr.frozen? ⟨w.heap.size, 0, none⟩ = false := Lib.frozen_of_heap hbr6 0
            have f1 : wr.frozen? ⟨w.heap.size, 1, none⟩ = false := Lib.frozen_of_heap hbr6 1
            have f2 : wr.frozen? ⟨w.heap.size, 2, none⟩ = false := Lib.frozen_of_heap hbr6 2
            have b0 : wr.cell? ⟨b, 0, none⟩ = some (.slice (some ⟨g, 0, none⟩) xs.length cap) := by rw [Lib.cell_of_heap hbp]; rfl
            have b1 : wr.cell? ⟨b, 1, none⟩ = some (.slice Fo j d) := by rw [Lib.cell_of_heap hbp]; rfl
            have b2 : wr.cell? ⟨b, 2, none⟩ = some (.slice Po np dp) := by rw [Lib.cell_of_heap hbp]; rfl
            have HBR6 := Lib.hid hbr6; have HBEL6 := Lib.hid hbel6; have HR1 := Lib.hid hr1; have HR2 := Lib.hid hr2; have HK := Lib.hid hK; have HOP := Lib.hid hop
            clear hbr6 hbel6 hr1 hr2 hK hop hbp c1
            go_wp2
            have z2 := zero3 HBR6.out (.slice (some ⟨g, 0, none⟩) xs.length cap) (.slice Fo j d) (.slice Po np dp)
            have hbz := ((HBEL6.out.setCell (p := ⟨w.heap.size, 0, none⟩) (Nat.le_refl _) (.slice (some ⟨g, 0, none⟩) xs.length cap)).setCell (p := ⟨w.heap.size, 1, none⟩) (Nat.le_refl _) (.slice Fo j d)).setCell (p := ⟨w.heap.size, 2, none⟩) (Nat.le_refl _) (.slice Po np dp)
            have hbz2 := (((Below.refl w.heap.size wr).setCell (p := ⟨w.heap.size, 0, none⟩) (Nat.le_refl _) (.slice (some ⟨g, 0, none⟩) xs.length cap)).setCell (p := ⟨w.heap.size, 1, none⟩) (Nat.le_refl _) (.slice Fo j d)).setCell (p := ⟨w.heap.size, 2, none⟩) (Nat.le_refl _) (.slice Po np dp)
            have hsl2 : b + 1 ≤ wl.heap.size := hsr
            have hkz : ∀ i, i ≠ w.heap.size → (((wr.setCell ⟨w.heap.size, 0, none⟩ (.slice (some ⟨g, 0, none⟩) xs.length cap)).setCell ⟨w.heap.size, 1, none⟩ (.slice Fo j d)).setCell ⟨w.heap.size, 2, none⟩ (.slice Po np dp)).heap[i]? = wr.heap[i]? := by
              intro i hi
              rw [Below.heap_setCell _ _ _ _ hi, Below.heap_setCell _ _ _ _ hi, Below.heap_setCell _ _ _ _ hi]
            clear k0 k1 k2 f0 f1 f2 HBR6 HBEL6
            generalize ((wr.setCell ⟨w.heap.size, 0, none⟩ (.slice (some ⟨g, 0, none⟩) xs.length cap)).setCell ⟨w.heap.size, 1, none⟩ (.slice Fo j d)).setCell ⟨w.heap.size, 2, none⟩ (.slice Po np dp) = wz at *
            have k0 : wz.cell? ⟨w.heap.size, 0, none⟩ = some (.slice (some ⟨g, 0, none⟩) xs.length cap) := by rw [Lib.cell_of_heap z2]; rfl
            have k1 : wz.cell? ⟨w.heap.size, 1, none⟩ = some (.slice Fo j d) := by rw [Lib.cell_of_heap z2]; rfl
            have k2 : wz.cell? ⟨w.heap.size, 2, none⟩ = some (.slice Po np dp) := by rw [Lib.cell_of_heap z2]; rfl
            have hre : res.1 = 0 := HR1.out.symm
            refine bodyPost_ret (v := .tuple #[.agg #[.slice (some ⟨g, 0, none⟩) xs.length cap, .slice Fo j d, .slice Po np dp], .int .i64 0]) (by simp [results, Tryz.results7, go_sem, k0, k1, k2]) rfl ⟨_, by rw [hre], hbz, fun _ => ⟨g, cap, _, _, rfl, ?_, ?_, ?_⟩, fun q => absurd hre q⟩
            · have hc := ((copy_items HO7.out (by omega)).kept HKP.out (by show g < _; omega) (by show g ≠ _; omega)).kept HK.out (by show g < _; omega) (by show g ≠ _; omega)
              exact hc.kept (B := w.heap.size) (R := b) (b := w.heap.size) ⟨hbz2, fun i _ hn => hkz i hn⟩ hbg (by show g ≠ _; omega)
            · have h1 := HOWN.out
              rw [show (ownK xs xs.length).length = (ownE xs).length from rfl] at h1
              rw [← HM.out] at h1 ⊢
              refine own_base (own_keep h1 fun i hi => ?_) (by omega)
              have hl := h1.lt i hi
              rw [hkz i (by omega), HK.out.keep i hl.2 (by omega)]
            · have h1 := HOP.out
              have hps : ps = res.2 := HR2.out
              rw [hps] at h1
              refine own_base (own_keep h1 fun i hi => ?_) (by omega)
              have hl := h1.lt i hi
              rw [hkz i (by omega)]
  · have hz : ((ways.length : Int) == 0) = false := by
      rw [beq_eq_false_iff_ne]; intro q; apply hw0; exact List.eq_nil_of_length_eq_zero (by omega)
    have HW0 := Lib.hid hw0
    clear hw0
    go_enter Tryz.func7, Tryz.ntmps7
    go_wp2_with (go_at_call 12; with_reducible refine (HC.out _ ((Below.refl _ _).alloc (Nat.le_refl _) _)).mono ?_)
    rintro e w1 ⟨rfl, hb1⟩
    have hbk : w1.heap[w.heap.size]? = some (.cells #[.slice none 0 0, .slice none 0 0, .slice none 0 0] 31 (0, 0)) := by
      rw [hb1.block w.heap.size (by simp)]; exact (MapKept.heap_alloc w _).1
    have hbw : Below w.heap.size w w1 := ((Below.refl _ _).alloc (Nat.le_refl _) _).trans (hb1.mono (by simp))
    have hs1 : w.heap.size + 1 ≤ w1.heap.size := by have := hb1.size; simpa using this
    have hx1 := HX.out.below (Nat.le_refl _) hbw
    obtain ⟨a, rfl⟩ : ∃ a, A = some a := by
      obtain ⟨x, hx⟩ : ∃ x, xs[0]? = some x := ⟨_, List.getElem?_eq_getElem hxz⟩
      obtain ⟨a, ha, _⟩ := hx1.2 0 x hx
      exact ⟨a, ha⟩
    have HBK := Lib.hid hbk; have HBW := Lib.hid hbw
    have HCELLS := Lib.hid hx1.cells
    clear hb1 hbk hbw hx1
    have hown0 : w1.ownsRow w1.heap.size 42 5 (.slice none 0 0) 0 [] := ⟨rfl, .inl ⟨rfl, rfl⟩⟩
    go_wp2_with (at_builtin; go_loud (refine wpList_append_lies _ rfl _ _ 23 rfl w1.heap.size 42 i0 (.agg #[.string ⟨#[]⟩, .int .i64 0, .int .i64 0, .string ⟨#[]⟩, .string ⟨#[]⟩]) 5 64 Tryz.underlying23 hi0 hz0 hz1 hz2 rfl (by decide) _ 0 [] rfl hown0 a xs.length c (itemCells xs) rfl (itemCells_len xs) ?c1 ?c2 hxz ?c3 ?c4 (Nat.le_refl _) _ rfl ?_))
    case c1 => exact HCELLS.out
    case c2 =>
      intro u hu
      obtain ⟨x, _, hx⟩ := List.mem_flatMap.1 hu
      simp [It.cells] at hx
      rcases hx with h | h | h | h | h <;> subst h <;> rfl
    case c3 => unfold maxLen; omega
    case c4 => omega
    intro g cap w2 hown2 hgrow hat hlt2
    have hg1 : w1.heap.size ≤ g := (hown2.lt g rfl).1
    have hgw : w.heap.size < g := by omega
    have hab : a.block < w.heap.size := by
      obtain ⟨x, hx⟩ : ∃ x, xs[0]? = some x := ⟨_, List.getElem?_eq_getElem hxz⟩
      obtain ⟨a', ha, h5, _⟩ := HX.out.2 0 x hx
      obtain rfl : a = a' := Option.some.inj ha
      have := World.block_lt_of_cell? w _ h5
      rw [add_block] at this; exact this
    have hwb : ∀ q, W = some q → q.block < w.heap.size := by
      intro q hq
      obtain ⟨y, hy⟩ : ∃ y, ways[0]? = some y := by
        cases hq : ways with
        | nil => exact absurd hq HW0.out
        | cons a b => exact ⟨a, rfl⟩
      obtain ⟨a', ha, h5⟩ := HW.out 0 y hy
      obtain rfl : q = a' := Option.some.inj (hq.symm.trans ha)
      have := World.block_lt_of_cell? w _ h5
      rw [add_block] at this; exact this
    have hbel2 : Below w.heap.size w w2 := HBW.out.grown hgrow (by omega) (fun k hk => by simp [Value.ownBlock] at hk)
    have hwx2 : IntsAt w2 W ways := HW.out.below (Nat.le_refl _) hbel2
    have hse : ws = ways := by rw [HWS.out]; unfold wayS; rw [if_neg HW0.out]
    have hbr2 : w2.heap[w.heap.size]? = some (.cells #[.slice none 0 0, .slice none 0 0, .slice none 0 0] 31 (0, 0)) := by
      rw [hgrow.block w.heap.size (by omega) (by simp [Value.ownBlock])]; exact HBK.out
    have hs2 := hgrow.size
    obtain ⟨nw, hnw⟩ : ∃ nw, nw = ways.length := ⟨_, rfl⟩
    have hnw2 : nw = ws.length := by rw [hse]; exact hnw
    have hwlen : ws.length ≤ 1000000 := by omega
    rw [← hse] at hwx2
    rw [← hnw]
    have HNW := Lib.hid hnw2; have HWX := Lib.hid hwx2; have HBR := Lib.hid hbr2; have HB2 := Lib.hid hbel2; have HWB := Lib.hid hwb; have HO2 := Lib.hid hown2
    clear hnw2 hwx2 hbr2 hbel2 hwb hown2 hgrow hat hse hnw HBK HBW HCELLS hown0
    go_wp2
    obtain ⟨vt, hvt⟩ : ∃ vt, vt = Value.slice (some ⟨g, 0, none⟩) xs.length cap := ⟨_, rfl⟩
    obtain ⟨b, hb⟩ : ∃ b, b = w2.heap.size := ⟨_, rfl⟩
    obtain ⟨w7, hw7⟩ : ∃ w7, w7 = w2.alloc (.cells #[.slice (some ⟨g, 0, none⟩) xs.length cap, .slice none 0 0, .slice none 0 0] 31) := ⟨_, rfl⟩
    have hbp7 : w7.heap[b]? = some (.cells #[vt, .slice none 0 0, .slice none 0 0] 31 (0, 0)) := by rw [hw7, hb, hvt]; exact (MapKept.heap_alloc w2 _).1
    have hs7 : b + 1 ≤ w7.heap.size := by rw [hw7, hb]; simp
    have hB7 : Below w.heap.size w w7 := by rw [hw7]; exact HB2.out.alloc (by omega) _
    have hx7 : ItemsAt w7 (some a) xs := HX.out.below (Nat.le_refl _) hB7
    have hwx7 : IntsAt w7 W ws := by rw [hw7]; exact HWX.out.below (B := w2.heap.size) (Nat.le_refl _) ((Below.refl _ _).alloc (Nat.le_refl _) _)
    have ho7 : w7.ownsRow w1.heap.size 42 5 vt xs.length (itemCells xs) := by rw [hw7, hvt]; have := HO2.out.alloc (.cells #[.slice (some ⟨g, 0, none⟩) xs.length cap, .slice none 0 0, .slice none 0 0] 31); simpa using this
    have hbr7 : w7.heap[w.heap.size]? = some (.cells #[.slice none 0 0, .slice none 0 0, .slice none 0 0] 31 (0, 0)) := by rw [hw7, Lib.alloc_old w2 _ _ (by omega)]; exact HBR.out
    have hwbb : ∀ q, W = some q → q.block < b := fun q hq => by have := HWB.out q hq; omega
    have HWB2 := Lib.hid hwbb
    clear hwbb
    rw [← hw7, ← hvt, ← hb]
    have hbg : g < b := by rw [hb]; exact hlt2
    have hbw : w.heap.size < b := by omega
    have HBP := Lib.hid hbp7; have HB7 := Lib.hid hB7; have HX7 := Lib.hid hx7; have HWX7 := Lib.hid hwx7; have HO7 := Lib.hid ho7; have HBR7 := Lib.hid hbr7; have HVT := Lib.hid hvt
    clear hbp7 hB7 hx7 hwx7 ho7 hbr7 hw7 hvt hb HB2 HWX HO2 HBR hlt2 hs2 hs1
    go_loopw [31] (fun i wr => ∃ (k : Nat) (vf : Value), k ≤ xs.length ∧ i = .int .i64 k ∧ wr.heap[b]? = some (.cells #[vt, vf, .slice none 0 0] 31 (0, 0)) ∧ wr.ownsRow (b + 1) 3 1 vf (ownK xs k).length (intCells (ownK xs k)) ∧ KeptR b (b + 1) b w7 wr ∧ b + 1 ≤ wr.heap.size) (fun i _ => xs.length - (intOf i).toNat)
    case atStart => exact ⟨0, .slice none 0 0, Nat.zero_le _, rfl, HBP.out, ⟨rfl, .inl ⟨rfl, rfl⟩⟩, ⟨Below.refl _ _, fun _ _ _ => rfl⟩, hs7⟩
    case round =>
      obtain ⟨k, vf, hk, rfl, hbp, hown, hkp, hsr⟩ := hrel
      by_cases hlt : k < xs.length
      · obtain ⟨x, hxk⟩ : ∃ x, xs[k]? = some x := ⟨_, List.getElem?_eq_getElem hlt⟩
        obtain ⟨a', ha, hit⟩ := HX7.out.2 k x hxk
        obtain rfl : a = a' := Option.some.inj ha
        obtain ⟨q0, q1, q2, q3, q4⟩ := hit.kept hkp (by rw [add_block]; omega) (by rw [add_block]; omega)
        have hkl := ownK_len xs k
        have c1 : wr.cell? ⟨b, 1, none⟩ = some vf := by rw [Lib.cell_of_heap hbp]; rfl
        have HXK := Lib.hid hxk; have HBPr := Lib.hid hbp; have HKP := Lib.hid hkp
        clear hxk hbp hkp hit ha
        have hnot : isOwn x = false → KeptR b (b + 1) b w7 (wr.alloc (.cells #[.string x.path, .int .i64 x.kind, .int .i64 x.mode, .string x.data, .string x.same] 42)) := fun _ =>
          ⟨HKP.out.below.alloc (by omega) _, fun i hi hn => by rw [Lib.alloc_old wr _ i (by omega)]; exact HKP.out.keep i hi hn⟩
        have HNOT := Lib.hid hnot
        have hb7 : (wr.alloc (.cells #[.string x.path, .int .i64 x.kind, .int .i64 x.mode, .string x.data, .string x.same] 42)).heap[b]? = some (.cells #[vt, vf, .slice none 0 0] 31 (0, 0)) := by rw [Lib.alloc_old wr _ b (by omega)]; exact HBPr.out
        have HB7' := Lib.hid hb7
        clear hnot hb7
        by_cases hk1 : x.kind = 1
        · have hkt : (x.kind == 1) = true := by rw [beq_iff_eq]; exact hk1
          have HK1 := Lib.hid hk1
          clear hk1
          cases hse : x.same.toList.isEmpty
          · have hno : isOwn x = false := by unfold isOwn; rw [hse]; simp
            have HNO := Lib.hid hno
            clear hno
            go_wp2
            go_roundw
            case rel => exact ⟨k + 1, vf, by omega, by go_num, HB7'.out, by rw [ownK_no HXK.out HNO.out]; exact hown.alloc _, HNOT.out HNO.out, by simp; omega⟩
            case measure => simp [intOf]; omega
          · have hyes : isOwn x = true := by unfold isOwn; rw [hse, hkt]; rfl
            have HYES := Lib.hid hyes
            clear hyes
            have c1a : (wr.alloc (.cells #[.string x.path, .int .i64 x.kind, .int .i64 x.mode, .string x.data, .string x.same] 42)).cell? ⟨b, 1, none⟩ = some vf := by rw [Lib.cell_of_heap HB7'.out]; rfl
            have hw3 : (wr.alloc (.cells #[.string x.path, .int .i64 x.kind, .int .i64 x.mode, .string x.data, .string x.same] 42)).heap.size = wr.heap.size + 1 := by simp
            have hown3 := hown.alloc (.cells #[.string x.path, .int .i64 x.kind, .int .i64 x.mode, .string x.data, .string x.same] 42)
            have HOWN3 := Lib.hid hown3; have HW3 := Lib.hid hw3
            clear hown3 hw3 hown
            go_wp2_with (at_builtin; go_loud (refine wpList_append_lies _ rfl _ _ 24 rfl (b + 1) 3 j0 (.int .i64 0) 1 8 Tryz.underlying24 hj0 hy0 hy1 hy2 rfl (by decide) _ _ _ rfl (HOWN3.out.alloc _) ⟨wr.heap.size + 1, 0, none⟩ 1 1 [.int .i64 k] rfl rfl ?c1 ?c2 (by decide) ?c3 ?c4 ?c5 _ rfl ?_))
            case c1 =>
              intro j u hj
              match j, hj with
              | 0, hj => simp at hj; subst hj; simp [Addr.add]
            case c2 => intro u hu; simp at hu; subst hu; rfl
            case c3 => unfold maxLen; omega
            case c4 => omega
            case c5 => simp; omega
            intro g2 cap2 w4 hown4 hgrow hat hlt4
            have hb4 : w4.heap[b]? = some (.cells #[vt, vf, .slice none 0 0] 31 (0, 0)) := by
              rw [hgrow.block b (by simp; omega) (fun e => by have := (HOWN3.out.lt b e.symm).1; omega), Lib.alloc_old _ _ b (by simp; omega)]
              exact HB7'.out
            have d1 : w4.cell? ⟨b, 1, none⟩ = some vf := by rw [Lib.cell_of_heap hb4]; rfl
            have f1 : w4.frozen? ⟨b, 1, none⟩ = false := Lib.frozen_of_heap hb4 1
            have hs4 := hgrow.size
            have hg2 : g2 ≠ b := by have := (hown4.lt g2 rfl).1; omega
            have hK4 : KeptR b (b + 1) b w7 (w4.setCell ⟨b, 1, none⟩ (.slice (some ⟨g2, 0, none⟩) ((ownK xs k).length + 1) cap2)) := by
              refine ⟨(((HKP.out.below.alloc (by omega) _).alloc (by simp; omega) _).grown hgrow (by simp; omega) (fun k hk => by have := (HOWN3.out.lt k hk).1; omega)).setCell (p := ⟨b, 1, none⟩) (Nat.le_refl _) _, fun i hi hn => ?_⟩
              rw [Below.heap_setCell _ _ _ _ hn, hgrow.block i (by simp; omega) (fun e => by have := (HOWN3.out.lt i e.symm).1; omega), Lib.alloc_old _ _ i (by simp; omega), Lib.alloc_old wr _ i (by omega), HKP.out.keep i hi hn]
            have hb5 : (w4.setCell ⟨b, 1, none⟩ (.slice (some ⟨g2, 0, none⟩) ((ownK xs k).length + 1) cap2)).heap[b]? = some (.cells #[vt, .slice (some ⟨g2, 0, none⟩) ((ownK xs k).length + 1) cap2, .slice none 0 0] 31 (0, 0)) := by
              have := Lib.heap_setCell_same (i := 1) hb4 (.slice (some ⟨g2, 0, none⟩) ((ownK xs k).length + 1) cap2)
              simpa using this
            have ho5 : (w4.setCell ⟨b, 1, none⟩ (.slice (some ⟨g2, 0, none⟩) ((ownK xs k).length + 1) cap2)).ownsRow (b + 1) 3 1 (.slice (some ⟨g2, 0, none⟩) ((ownK xs k).length + 1) cap2) (ownK xs (k + 1)).length (intCells (ownK xs (k + 1))) := by
              rw [ownK_yes HXK.out HYES.out]
              rcases hown4 with ⟨a1, ⟨a2, _⟩ | ⟨g', cap', cur, hv, hl, hgg, q⟩⟩
              · exact absurd a2 (by simp)
              · obtain ⟨rfl, -, rfl⟩ : g2 = g' ∧ True ∧ cap2 = cap' := by injection hv with q1 q2 q3; injection q1 with q1; injection q1 with q1; exact ⟨q1, trivial, q3⟩
                refine ⟨by simp [intCells], .inr ⟨g2, cap2, cur, by simp, hl, by rw [Below.heap_setCell _ _ _ _ hg2]; exact hgg, by simpa [intCells] using q⟩⟩
            have HK4 := Lib.hid hK4; have HB5 := Lib.hid hb5; have HO5 := Lib.hid ho5
            simp at hs4
            clear hK4 hb5 ho5 hb4 hown4 hgrow hat HKP HOWN3 HB7' HBPr HNOT c1 c1a
            go_wp2
            go_roundw
            case rel => exact ⟨k + 1, _, by omega, by go_num, HB5.out, HO5.out, HK4.out, by simp [World.setCell]; omega⟩
            case measure => simp [intOf]; omega
        · have hkt : (x.kind == 1) = false := by rw [beq_eq_false_iff_ne]; exact hk1
          have hno : isOwn x = false := by unfold isOwn; rw [hkt]; simp
          have HNO := Lib.hid hno
          clear hno hk1
          go_wp2
          go_roundw
          case rel => exact ⟨k + 1, vf, by omega, by go_num, HB7'.out, by rw [ownK_no HXK.out HNO.out]; exact hown.alloc _, HNOT.out HNO.out, by simp; omega⟩
          case measure => simp [intOf]; omega
      · have hkn : k = xs.length := by omega
        subst hkn
        obtain ⟨m, hm⟩ : ∃ m, m = (ownE xs).length := ⟨_, rfl⟩
        obtain ⟨Fo, d, hvf, hFo⟩ : ∃ (Fo : Option Addr) (d : Nat), vf = .slice Fo m d ∧ ∀ (j i : Nat), (ownE xs)[j]? = some i → ∃ F : Addr, Fo = some F ∧ b < F.block ∧ wr.cell? (F.add j) = some (.int .i64 i) := by
          rcases hown.2 with ⟨h1, h2⟩ | ⟨gf, cf, cur, h1, h2, _⟩
          · have h0 : (ownE xs).length = 0 := h2
            exact ⟨none, 0, by rw [hm, h0]; exact h1, fun j i hj => by rw [List.eq_nil_of_length_eq_zero h0] at hj; simp at hj⟩
          · subst h1
            refine ⟨some ⟨gf, 0, none⟩, cf, by rw [hm]; rfl, fun j i hj => ⟨_, rfl, by show b < gf; omega, ?_⟩⟩
            have := own_cells hown (j := j) (u := .int .i64 i) (by show ((ownE xs).map fun (i : Nat) => Value.int .i64 i)[j]? = _; rw [List.getElem?_map, hj]; rfl)
            rw [show (⟨gf, 0, none⟩ : Addr).add j = ⟨gf, j, none⟩ by unfold Addr.add; split <;> simp_all]
            exact this
        subst hvf
        have hvt := HVT.out
        subst hvt
        obtain ⟨wl, hwl2⟩ : ∃ wl, wl = wr := ⟨_, rfl⟩
        subst hwl2
        have hP0 : PlanAt wl.heap.size b (.slice (some ⟨g, 0, none⟩) xs.length cap) (.slice Fo m d) [] wl := ⟨.slice none 0 0, hbp, ⟨rfl, .inl ⟨rfl, rfl⟩⟩, by omega, Nat.le_refl _⟩
        have c1 : wl.cell? ⟨b, 1, none⟩ = some (.slice Fo m d) := by rw [Lib.cell_of_heap hbp]; rfl
        have HFO := Lib.hid hFo; have HP0 := Lib.hid hP0; have HKP := Lib.hid hkp; have HOWN := Lib.hid hown
        have HM := Lib.hid hm
        have hmx : m ≤ 4096 := by have := ownK_len xs xs.length; rw [hm]; unfold ownE; omega
        clear hFo hP0 hkp hown hm hbp HVT
        go_wp2
        go_loopw [54] (fun i w5 => ∃ (j : Nat) (ps : List Pt), j ≤ m ∧ i = .int .i64 j ∧ (partsFrom xs ws j ((ownE xs).drop j)).1 = res.1 ∧ ps ++ (partsFrom xs ws j ((ownE xs).drop j)).2 = res.2 ∧ ps.length ≤ j * 200000 ∧ PlanAt wl.heap.size b (.slice (some ⟨g, 0, none⟩) xs.length cap) (.slice Fo m d) ps w5 ∧ KeptR b wl.heap.size b wl w5) (fun i _ => m - (intOf i).toNat)
        case atStart => exact ⟨0, [], Nat.zero_le _, rfl, by rw [HRES.out]; rfl, by rw [HRES.out]; rfl, Nat.zero_le _, HP0.out, ⟨Below.refl _ _, fun _ _ _ => rfl⟩⟩
        case round =>
          obtain ⟨j, ps, hj, rfl, hr1, hr2, hpl, hP, hK⟩ := hrel
          by_cases hlt : j < m
          · obtain ⟨i, hji⟩ : ∃ i, (ownE xs)[j]? = some i := ⟨_, List.getElem?_eq_getElem (by rw [← HM.out]; exact hlt)⟩
            obtain ⟨F, rfl, hFb, hFc⟩ := HFO.out j i hji
            have hin : i < xs.length := ownK_lt (List.mem_of_getElem? hji)
            obtain ⟨x, hxi⟩ : ∃ x, xs[i]? = some x := ⟨_, List.getElem?_eq_getElem hin⟩
            have hdx : x.data.size ≤ 200000 := HDAT.out x (List.mem_of_getElem? hxi)
            have hFl := World.block_lt_of_cell? wl _ hFc
            rw [add_block] at hFl
            have hsl : b + 1 ≤ wl.heap.size := hsr
            have hcp : ItemsAt wr (some ⟨g, 0, none⟩) xs := ((copy_items HO7.out (by omega)).kept HKP.out (by show g < _; omega) (by show g ≠ _; omega)).kept hK (by show g < _; omega) (by show g ≠ _; omega)
            obtain ⟨ga, hga, hit⟩ := hcp.2 i x hxi
            obtain rfl : (⟨g, 0, none⟩ : Addr) = ga := Option.some.inj hga
            have hwb := HWB2.out
            have hww : IntsAt wr W ws := (HWX7.out.kept HKP.out (fun q hq => by have := hwb q hq; omega)).kept hK (fun q hq => by have := hwb q hq; omega)
            have hfile := plan_file' j i ⟨g, 0, none⟩ F W xs.length cap m d nw cw ws wl.heap.size b ps x wr HNW.out hP hlt hin ((hK.cell (by rw [add_block]; exact hFl) (by rw [add_block]; omega)).trans hFc) hit hww ⟨hFl, by omega⟩ (fun q hq => by have := hwb q hq; omega) ⟨by show g < _; omega, by show g ≠ _; omega⟩ (by rw [HWS.out]; exact wayS_ne ways) hwlen (by have : j * 200000 ≤ 4096 * 200000 := Nat.mul_le_mul_right _ (by omega); omega)
            have hd : (ownE xs).drop j = i :: (ownE xs).drop (j + 1) := by
              have hl : j < (ownE xs).length := by rw [← HM.out]; exact hlt
              rw [List.drop_eq_getElem_cons hl]
              rw [List.getElem?_eq_getElem hl] at hji
              rw [Option.some.inj hji]
            have hde : datE xs i = x.data := by unfold datE; rw [hxi]; rfl
            rw [hd] at hr1 hr2
            unfold partsFrom at hr1 hr2
            rw [hde] at hr1 hr2
            have hlen := fileE_len j ws _ x.data rfl
            obtain ⟨fe, hfe⟩ : ∃ fe, fe = fileE j ws x.data := ⟨_, rfl⟩
            rw [← hfe] at hfile hr1 hr2 hlen
            have HK := Lib.hid hK; have HFE := Lib.hid hfe
            clear hK hP hcp hit hww hFc hxi hji hd hde hga hfe hwb
            by_cases he : fe.1 = 0
            · rw [if_neg (by simp [he])] at hr1 hr2
              have HR1 := Lib.hid hr1; have HR2 := Lib.hid hr2
              rw [he] at hfile
              clear hr1 hr2 he
              go_wp2_with (go_at_call 13; with_reducible refine hfile.mono ?_)
              intro e w6 he6 hP6 hK6
              subst he6
              have HP6 := Lib.hid hP6; have HK6 := Lib.hid (HK.out.trans hK6)
              clear hP6 hK6 HK hfile
              go_wp2
              go_roundw
              case rel => exact ⟨j + 1, _, by omega, by go_num, HR1.out, by rw [List.append_assoc]; exact HR2.out, by simp; omega, HP6.out, HK6.out⟩
              case measure => simp [intOf]; omega
            · rw [if_pos he] at hr1
              have HR1 := Lib.hid hr1
              obtain ⟨er, her⟩ : ∃ er, er = fe.1 := ⟨_, rfl⟩
              rw [← her] at hfile
              have hne2 : (er != 0) = true := by rw [bne_iff_ne, her]; exact he
              have HER := Lib.hid her
              clear hr1 hr2 he her
              go_wp2_with (go_at_call 13; with_reducible refine hfile.mono ?_)
              intro e w6 he6 hP6 hK6
              subst he6
              have hbr6 : w6.heap[w.heap.size]? = some (.cells #[.slice none 0 0, .slice none 0 0, .slice none 0 0] 31 (0, 0)) := by
                rw [hK6.keep _ (by omega) (by omega), HK.out.keep _ (by omega) (by omega), HKP.out.keep _ (by omega) (by omega)]; exact HBR7.out
              have hbel6 : Below w.heap.size w w6 := ((HB7.out.trans (HKP.out.below.mono (by omega))).trans (HK.out.below.mono (by omega))).trans (hK6.below.mono (by omega))
              have k0 : w6.cell? ⟨w.heap.size, 0, none⟩ = some (.slice none 0 0) := by rw [Lib.cell_of_heap hbr6]; rfl
              have k1 : w6.cell? ⟨w.heap.size, 1, none⟩ = some (.slice none 0 0) := by rw [Lib.cell_of_heap hbr6]; rfl
              have k2 : w6.cell? ⟨w.heap.size, 2, none⟩ = some (.slice none 0 0) := by rw [Lib.cell_of_heap hbr6]; rfl
              have f0 : w6.frozen? ⟨w.heap.size, 0, none⟩ = false := Lib.frozen_of_heap hbr6 0
              have f1 : w6.frozen? ⟨w.heap.size, 1, none⟩ = false := Lib.frozen_of_heap hbr6 1
              have f2 : w6.frozen? ⟨w.heap.size, 2, none⟩ = false := Lib.frozen_of_heap hbr6 2
              have HBR6 := Lib.hid hbr6; have HBEL6 := Lib.hid hbel6
              clear hP6 hK6 hbr6 hbel6 hfile c1
              go_wp2
              have z2 := zero3 HBR6.out (.slice none 0 0) (.slice none 0 0) (.slice none 0 0)
              have hbz := ((HBEL6.out.setCell (p := ⟨w.heap.size, 0, none⟩) (Nat.le_refl _) (.slice none 0 0)).setCell (p := ⟨w.heap.size, 1, none⟩) (Nat.le_refl _) (.slice none 0 0)).setCell (p := ⟨w.heap.size, 2, none⟩) (Nat.le_refl _) (.slice none 0 0)
              clear k0 k1 k2 f0 f1 f2 HBR6 HBEL6
              generalize ((w6.setCell ⟨w.heap.size, 0, none⟩ (.slice none 0 0)).setCell ⟨w.heap.size, 1, none⟩ (.slice none 0 0)).setCell ⟨w.heap.size, 2, none⟩ (.slice none 0 0) = wz at *
              have k0 : wz.cell? ⟨w.heap.size, 0, none⟩ = some (.slice none 0 0) := by rw [Lib.cell_of_heap z2]; rfl
              have k1 : wz.cell? ⟨w.heap.size, 1, none⟩ = some (.slice none 0 0) := by rw [Lib.cell_of_heap z2]; rfl
              have k2 : wz.cell? ⟨w.heap.size, 2, none⟩ = some (.slice none 0 0) := by rw [Lib.cell_of_heap z2]; rfl
              have hre : res.1 = er := by rw [← HR1.out, HER.out]
              refine bodyPost_ret (v := .tuple #[.agg #[.slice none 0 0, .slice none 0 0, .slice none 0 0], .int .i64 er]) (by simp [results, Tryz.results7, go_sem, k0, k1, k2]) rfl ⟨.agg #[.slice none 0 0, .slice none 0 0, .slice none 0 0], by rw [hre], hbz, fun q => ?_, fun _ => rfl⟩
              rw [bne_iff_ne] at hne2
              exact absurd (hre.symm.trans q) hne2
          · have hjm : j = m := by omega
            subst hjm
            rw [show (ownE xs).drop j = [] by rw [HM.out]; exact List.drop_length] at hr1 hr2
            unfold partsFrom at hr1 hr2
            rw [List.append_nil] at hr2
            obtain ⟨vp, hbp, hop, _, hsl⟩ := hP
            obtain ⟨Po, np, dp, rfl⟩ : ∃ (Po : Option Addr) (np dp : Nat), vp = .slice Po np dp := by
              rcases hop.2 with ⟨h, _⟩ | ⟨gp, cp, cur, h, _⟩
              · exact ⟨none, 0, 0, h⟩
              · exact ⟨_, _, _, h⟩
            have hbr6 : wr.heap[w.heap.size]? = some (.cells #[.slice none 0 0, .slice none 0 0, .slice none 0 0] 31 (0, 0)) := by
              rw [hK.keep _ (by omega) (by omega), HKP.out.keep _ (by omega) (by omega)]; exact HBR7.out
            have hbel6 : Below w.heap.size w wr := (HB7.out.trans (HKP.out.below.mono (by omega))).trans (hK.below.mono (by omega))
            have k0 : wr.cell? ⟨w.heap.size, 0, none⟩ = some (.slice none 0 0) := by rw [Lib.cell_of_heap hbr6]; rfl
            have k1 : wr.cell? ⟨w.heap.size, 1, none⟩ = some (.slice none 0 0) := by rw [Lib.cell_of_heap hbr6]; rfl
            have k2 : wr.cell? ⟨w.heap.size, 2, none⟩ = some (.slice none 0 0) := by rw [Lib.cell_of_heap hbr6]; rfl
            have f0 : wr.frozen? ⟨w.heap.size, 0, none⟩ = false := Lib.frozen_of_heap hbr6 0
            have f1 : wr.frozen? ⟨w.heap.size, 1, none⟩ = false := Lib.frozen_of_heap hbr6 1
            have f2 : wr.frozen? ⟨w.heap.size, 2, none⟩ = false := Lib.frozen_of_heap hbr6 2
            have b0 : wr.cell? ⟨b, 0, none⟩ = some (.slice (some ⟨g, 0, none⟩) xs.length cap) := by rw [Lib.cell_of_heap hbp]; rfl
            have b1 : wr.cell? ⟨b, 1, none⟩ = some (.slice Fo j d) := by rw [Lib.cell_of_heap hbp]; rfl
            have b2 : wr.cell? ⟨b, 2, none⟩ = some (.slice Po np dp) := by rw [Lib.cell_of_heap hbp]; rfl
            have HBR6 := Lib.hid hbr6; have HBEL6 := Lib.hid hbel6; have HR1 := Lib.hid hr1; have HR2 := Lib.hid hr2; have HK := Lib.hid hK; have HOP := Lib.hid hop
            clear hbr6 hbel6 hr1 hr2 hK hop hbp c1
            go_wp2
            have z2 := zero3 HBR6.out (.slice (some ⟨g, 0, none⟩) xs.length cap) (.slice Fo j d) (.slice Po np dp)
            have hbz := ((HBEL6.out.setCell (p := ⟨w.heap.size, 0, none⟩) (Nat.le_refl _) (.slice (some ⟨g, 0, none⟩) xs.length cap)).setCell (p := ⟨w.heap.size, 1, none⟩) (Nat.le_refl _) (.slice Fo j d)).setCell (p := ⟨w.heap.size, 2, none⟩) (Nat.le_refl _) (.slice Po np dp)
            have hbz2 := (((Below.refl w.heap.size wr).setCell (p := ⟨w.heap.size, 0, none⟩) (Nat.le_refl _) (.slice (some ⟨g, 0, none⟩) xs.length cap)).setCell (p := ⟨w.heap.size, 1, none⟩) (Nat.le_refl _) (.slice Fo j d)).setCell (p := ⟨w.heap.size, 2, none⟩) (Nat.le_refl _) (.slice Po np dp)
            have hsl2 : b + 1 ≤ wl.heap.size := hsr
            have hkz : ∀ i, i ≠ w.heap.size → (((wr.setCell ⟨w.heap.size, 0, none⟩ (.slice (some ⟨g, 0, none⟩) xs.length cap)).setCell ⟨w.heap.size, 1, none⟩ (.slice Fo j d)).setCell ⟨w.heap.size, 2, none⟩ (.slice Po np dp)).heap[i]? = wr.heap[i]? := by
              intro i hi
              rw [Below.heap_setCell _ _ _ _ hi, Below.heap_setCell _ _ _ _ hi, Below.heap_setCell _ _ _ _ hi]
            clear k0 k1 k2 f0 f1 f2 HBR6 HBEL6
            generalize ((wr.setCell ⟨w.heap.size, 0, none⟩ (.slice (some ⟨g, 0, none⟩) xs.length cap)).setCell ⟨w.heap.size, 1, none⟩ (.slice Fo j d)).setCell ⟨w.heap.size, 2, none⟩ (.slice Po np dp) = wz at *
            have k0 : wz.cell? ⟨w.heap.size, 0, none⟩ = some (.slice (some ⟨g, 0, none⟩) xs.length cap) := by rw [Lib.cell_of_heap z2]; rfl
            have k1 : wz.cell? ⟨w.heap.size, 1, none⟩ = some (.slice Fo j d) := by rw [Lib.cell_of_heap z2]; rfl
            have k2 : wz.cell? ⟨w.heap.size, 2, none⟩ = some (.slice Po np dp) := by rw [Lib.cell_of_heap z2]; rfl
            have hre : res.1 = 0 := HR1.out.symm
            refine bodyPost_ret (v := .tuple #[.agg #[.slice (some ⟨g, 0, none⟩) xs.length cap, .slice Fo j d, .slice Po np dp], .int .i64 0]) (by simp [results, Tryz.results7, go_sem, k0, k1, k2]) rfl ⟨_, by rw [hre], hbz, fun _ => ⟨g, cap, _, _, rfl, ?_, ?_, ?_⟩, fun q => absurd hre q⟩
            · have hc := ((copy_items HO7.out (by omega)).kept HKP.out (by show g < _; omega) (by show g ≠ _; omega)).kept HK.out (by show g < _; omega) (by show g ≠ _; omega)
              exact hc.kept (B := w.heap.size) (R := b) (b := w.heap.size) ⟨hbz2, fun i _ hn => hkz i hn⟩ hbg (by show g ≠ _; omega)
            · have h1 := HOWN.out
              rw [show (ownK xs xs.length).length = (ownE xs).length from rfl] at h1
              rw [← HM.out] at h1 ⊢
              refine own_base (own_keep h1 fun i hi => ?_) (by omega)
              have hl := h1.lt i hi
              rw [hkz i (by omega), HK.out.keep i hl.2 (by omega)]
            · have h1 := HOP.out
              have hps : ps = res.2 := HR2.out
              rw [hps] at h1
              refine own_base (own_keep h1 fun i hi => ?_) (by omega)
              have hl := h1.lt i hi
              rw [hkz i (by omega)]
end Go.Proofs.YtomckoldfdeidaaGreatDoor

/- the document's words on paths: has, Name, Right. -/
namespace Go.Proofs.YtomckoldfdeidaaGreatDoor
open Go.RowKit

def hasL (l : List UInt8) (c : UInt8) : Bool := l.contains c

set_option maxRecDepth 100000 in
set_option maxHeartbeats 1600000 in
theorem ref_has (s : ByteArray) (c : UInt8) (hs : s.size ≤ 1000000000) (w : World) :
    Calls Tryz.prog 44 #[.string s, .int .u8 (c.toNat : Nat)] w fun e w' => e = .returned (.bool (hasL s.data.toList c)) ∧ w = w' := by
  go_enter Tryz.func44, Tryz.ntmps44
  go_wp2
  go_loop [5] (fun i => ∃ k : Nat, k ≤ s.size ∧ i = .int .i64 k ∧ (s.data.toList.take k).contains c = false) (fun i => s.size - (intOf i).toNat)
  case atStart => exact ⟨0, Nat.zero_le _, rfl, by simp⟩
  case round =>
    obtain ⟨k, hk, rfl, hno⟩ := hrel
    have HN := Lib.hid hno
    clear hno
    by_cases hlt : k < s.size
    · have hget := Lib.data_getElem? s k hlt
      have hsn : (s.data.toList.take (k + 1)).contains c = ((s.data.toList.take k).contains c || c == s[k]) := by
        rw [List.take_add_one, hget]; simp [List.contains_eq_mem, Bool.beq_eq_decide_eq]
      have hall : s[k] = c → hasL s.data.toList c = true := by
        intro q
        unfold hasL
        rw [List.contains_iff_mem, ← q]
        exact List.mem_of_getElem? hget
      have HS := Lib.hid hsn; have HALL := Lib.hid hall
      clear hsn hget hall
      by_cases hc : s[k] = c
      · have ht : (((s[k].toNat : Nat) : Int) == ((c.toNat : Nat) : Int)) = true := by rw [beq_iff_eq, hc]
        have HC := Lib.hid hc
        clear hc
        go_wp2
        go_ret
        exact ⟨ret_bool (HALL.out HC.out).symm, rfl⟩
      · have ht : (((s[k].toNat : Nat) : Int) == ((c.toNat : Nat) : Int)) = false := by
          rw [beq_eq_false_iff_ne]; intro q; apply hc; exact UInt8.toNat_inj.1 (by omega)
        have HC := Lib.hid hc
        clear hc
        go_wp2
        go_round
        case rel => exact ⟨k + 1, by omega, by go_num, by rw [HS.out, HN.out]; have := HC.out; simp [Ne.symm this]⟩
        case measure => simp [intOf]; omega
    · go_wp2
      go_ret
      refine ⟨ret_bool ?_, rfl⟩
      have := HN.out
      rw [List.take_of_length_le (by rw [← Lib.size_eq]; omega)] at this
      unfold hasL; rw [this]

set_option maxRecDepth 100000 in
set_option maxHeartbeats 1600000 in
theorem ref_Right (s : ByteArray) (hs : s.size ≤ 1000000000) (w : World) :
    Calls Tryz.prog 25 #[.string s] w fun e w' => e = .returned (.bool (rightL s.data.toList)) ∧ w = w' := by
  have h0 := fun w => ref_has s 0 hs w
  rw [show (((0 : UInt8).toNat : Nat) : Int) = 0 from rfl] at h0
  have e : rightL s.data.toList = (decide (1 ≤ (s.size : Int)) && decide ((s.size : Int) ≤ 4095) && !(hasL s.data.toList 0)) := by
    unfold rightL hasL; rw [← Lib.size_eq]
    congr 2
    · simp; omega
    · simp; omega
  have E := Lib.hid e
  clear e
  cases hq : hasL s.data.toList 0
  all_goals
    rw [hq] at h0
    have HQ := Lib.hid hq
    clear hq
    go_enter Tryz.func25, Tryz.ntmps25
    go_wp2_with (go_at_call 44; (with_reducible refine (h0 _).mono ?_); rintro e w' ⟨rfl, rfl⟩)
    all_goals
      go_ret
      refine ⟨ret_bool ?_, rfl⟩
      rw [E.out, HQ.out]
      simp [*]
      try omega
end Go.Proofs.YtomckoldfdeidaaGreatDoor

/- the document's words on paths: Name. -/
namespace Go.Proofs.YtomckoldfdeidaaGreatDoor
open Go.RowKit

theorem nameL_eq2 (s : ByteArray) : nameL s.data.toList = (decide (1 ≤ (s.size : Int)) && decide ((s.size : Int) ≤ 255) && !(hasL s.data.toList 47) && !(hasL s.data.toList 0) && !(s.toList == [46]) && !(s.toList == [46, 46])) := by
  unfold nameL hasL
  rw [← Lib.size_eq, Lib.toList_data]
  have e1 : decide (1 ≤ s.size) = decide (1 ≤ (s.size : Int)) := by simp; omega
  have e2 : decide (s.size ≤ 255) = decide ((s.size : Int) ≤ 255) := by simp; omega
  rw [e1, e2]
  rfl

set_option maxRecDepth 100000 in
set_option maxHeartbeats 1600000 in
theorem ref_Name (s : ByteArray) (hs : s.size ≤ 1000000000) (w : World) :
    Calls Tryz.prog 43 #[.string s] w fun e w' => e = .returned (.bool (nameL s.data.toList)) ∧ w = w' := by
  have h0 := fun w => ref_has s 0 hs w
  have h1 := fun w => ref_has s 47 hs w
  rw [show (((0 : UInt8).toNat : Nat) : Int) = 0 from rfl] at h0
  rw [show (((47 : UInt8).toNat : Nat) : Int) = 47 from rfl] at h1
  have E := Lib.hid (nameL_eq2 s)
  cases hq : hasL s.data.toList 0 <;> cases hr : hasL s.data.toList 47
  all_goals
    rw [hq] at h0
    rw [hr] at h1
    have HQ := Lib.hid hq
    have HR := Lib.hid hr
    clear hq hr
    go_enter Tryz.func43, Tryz.ntmps43
    go_wp2_with (go_at_call 44; (first | (with_reducible refine (h0 _).mono ?_) | (with_reducible refine (h1 _).mono ?_)); rintro e w' ⟨rfl, rfl⟩)
    all_goals
      go_ret
      refine ⟨ret_bool ?_, rfl⟩
      rw [E.out, HQ.out, HR.out]
      simp [*]
      try omega
end Go.Proofs.YtomckoldfdeidaaGreatDoor

/- the document's words on paths: Pieces. -/
namespace Go.Proofs.YtomckoldfdeidaaGreatDoor
open Go.RowKit

theorem infoStr : (Tryz.prog.info? 9).map (fun i => (i.zero, i.size, i.bytes)) = some (some (.string ⟨#[]⟩), 1, 16) := by kernel_rfl
def strV (p : List UInt8) : Value := .string ⟨p.toArray⟩
def strVs (ps : List (List UInt8)) : List Value := ps.map strV
theorem ext_strV (s : ByteArray) (a b : Nat) : Value.string (s.extract a b) = strV ((s.data.toList.drop a).take (b - a)) := by
  unfold strV; rw [← Lib.extract_data]

set_option maxRecDepth 100000 in
set_option maxHeartbeats 1600000 in
theorem ref_Pieces (s : ByteArray) (hs : s.size ≤ 1000000000) (w : World) :
    Calls Tryz.prog 42 #[.string s] w fun e w' => ∃ v, e = .returned v ∧ w'.ownsRow w.heap.size 9 1 v (pieces s.data.toList).length (strVs (pieces s.data.toList)) ∧ Below w.heap.size w w' := by
  obtain ⟨i0, hi, hz0, hz1, hz2⟩ := info_parts infoStr
  obtain ⟨l, hl⟩ : ∃ l, l = s.data.toList := ⟨_, rfl⟩
  have hls : l.length = s.size := by rw [hl, Lib.size_eq]
  have HL := Lib.hid hl
  have HLS := Lib.hid hls
  rw [← hl]
  clear hl hls
  go_enter Tryz.func42, Tryz.ntmps42
  go_wp2
  go_loopw [3, 4, 5] (fun v fr i wr => ∃ (ps : List (List UInt8)) (f k : Nat), f ≤ k ∧ k ≤ s.size ∧ ps.length ≤ f ∧ fr = .int .i64 f ∧ i = .int .i64 k ∧ pieces l = ps ++ pieces (l.drop f) ∧ 47 ∉ (l.drop f).take (k - f) ∧ wr.ownsRow w.heap.size 9 1 v ps.length (strVs ps) ∧ Below w.heap.size w wr) (fun _ _ i _ => s.size - (intOf i).toNat)
  case atStart => exact ⟨[], 0, 0, Nat.le_refl _, Nat.zero_le _, Nat.le_refl _, rfl, rfl, rfl, by simp, ⟨rfl, .inl ⟨rfl, rfl⟩⟩, Below.refl _ _⟩
  case round =>
    obtain ⟨ps, f, k, hfk, hks, hpf, rfl, rfl, hps, hno, hown, hbw⟩ := hrel
    have hszw := hbw.size
    have HP := Lib.hid hps; have HN := Lib.hid hno; have HB := Lib.hid hbw
    clear hps hno hbw
    by_cases hlt : k < s.size
    · have hget : l[k]? = some s[k] := by rw [HL.out]; exact Lib.data_getElem? s k hlt
      have HG := Lib.hid hget
      clear hget
      by_cases hc : s[k].toNat = 47
      · have ht : (((s[k].toNat : Nat) : Int) == 47) = true := by rw [beq_iff_eq]; omega
        have HC := Lib.hid hc
        clear hc
        go_wp2_with (at_builtin; refine wpList_append_lies _ rfl _ _ 84 rfl w.heap.size 9 i0 (.string ⟨#[]⟩) 1 16 Tryz.underlying84 hi hz0 hz1 hz2 rfl (by decide) _ _ _ rfl (hown.alloc _) ⟨wr.heap.size, 0, none⟩ 1 1 [.string (s.extract f k)] rfl rfl ?c1 ?c2 (by decide) ?c3 ?c4 ?c5 _ rfl ?_)
        case c1 => intro j u hj; match j, hj with | 0, hj => simp at hj; subst hj; simp [Addr.add]
        case c2 => intro u hu; simp at hu; subst hu; rfl
        case c3 => unfold maxLen; omega
        case c4 => omega
        case c5 => simp; omega
        intro g cap w2 hown2 hgrow hat hlt2
        have hb2 : Below w.heap.size w w2 := ((HB.out).alloc (by omega) _).grown hgrow (by simp; omega) (fun k hk => (hown.lt k hk).1)
        have hcut : pieces (l.drop f) = (l.drop f).take (k - f) :: pieces (l.drop (k + 1)) := by
          have hd : l.drop f = (l.drop f).take (k - f) ++ 47 :: l.drop (k + 1) := by
            conv => lhs; rw [← List.take_append_drop (k - f) (l.drop f)]
            rw [List.drop_drop, show f + (k - f) = k by omega]
            have hkl : k < l.length := by rw [HLS.out]; exact hlt
            rw [List.drop_eq_getElem_cons hkl]
            have := HG.out
            rw [List.getElem?_eq_getElem hkl] at this
            rw [Option.some.inj this, show s[k] = 47 from UInt8.toNat_inj.1 HC.out]
          conv => lhs; rw [hd]
          exact pieces_append _ _ HN.out
        rw [ext_strV, ← HL.out] at hown2
        have ho3 : w2.ownsRow w.heap.size 9 1 (.slice (some ⟨g, 0, none⟩) (ps.length + 1) cap) (ps ++ [(l.drop f).take (k - f)]).length (strVs (ps ++ [(l.drop f).take (k - f)])) := by
          simpa [strVs] using hown2
        have HO := Lib.hid ho3; have HB2 := Lib.hid hb2; have HCUT := Lib.hid hcut
        clear ho3 hown2 hb2 hat hgrow hown hcut
        go_wp2
        go_roundw
        case rel => exact ⟨_, k + 1, k + 1, Nat.le_refl _, by omega, by simp; omega, by go_num, by go_num, by rw [HP.out, HCUT.out]; simp, by simp, HO.out, HB2.out⟩
        case measure => simp [intOf]; omega
      · have ht : (((s[k].toNat : Nat) : Int) == 47) = false := by rw [beq_eq_false_iff_ne]; omega
        have HC := Lib.hid hc
        clear hc
        go_wp2
        go_roundw
        case rel =>
          refine ⟨ps, f, k + 1, by omega, by omega, hpf, rfl, by go_num, HP.out, ?_, hown, HB.out⟩
          rw [show k + 1 - f = k - f + 1 by omega, List.take_add_one, List.getElem?_drop, show f + (k - f) = k by omega, HG.out]
          intro hm
          simp at hm
          rcases hm with hm | hm
          · exact HN.out hm
          · exact HC.out (by rw [← hm]; rfl)
        case measure => simp [intOf]; omega
    · have hkn : k = s.size := by omega
      subst hkn
      go_wp2_with (at_builtin; refine wpList_append_lies _ rfl _ _ 84 rfl w.heap.size 9 i0 (.string ⟨#[]⟩) 1 16 Tryz.underlying84 hi hz0 hz1 hz2 rfl (by decide) _ _ _ rfl (hown.alloc _) ⟨wr.heap.size, 0, none⟩ 1 1 [.string (s.extract f s.size)] rfl rfl ?c1 ?c2 (by decide) ?c3 ?c4 ?c5 _ rfl ?_)
      case c1 => intro j u hj; match j, hj with | 0, hj => simp at hj; subst hj; simp [Addr.add]
      case c2 => intro u hu; simp at hu; subst hu; rfl
      case c3 => unfold maxLen; omega
      case c4 => omega
      case c5 => simp; omega
      intro g cap w2 hown2 hgrow hat hlt2
      have hb2 : Below w.heap.size w w2 := ((HB.out).alloc (by omega) _).grown hgrow (by simp; omega) (fun k hk => (hown.lt k hk).1)
      have hfin : pieces l = ps ++ [(l.drop f).take (s.size - f)] := by
        have hn := HN.out
        have hall : (l.drop f).take (s.size - f) = l.drop f := List.take_of_length_le (by rw [List.length_drop, HLS.out]; omega)
        rw [hall] at hn ⊢
        rw [HP.out, pieces_no _ hn]
      rw [ext_strV, ← HL.out] at hown2
      have ho3 : w2.ownsRow w.heap.size 9 1 (.slice (some ⟨g, 0, none⟩) (ps.length + 1) cap) (pieces l).length (strVs (pieces l)) := by
        rw [hfin]; simpa [strVs] using hown2
      have HO := Lib.hid ho3; have HB2 := Lib.hid hb2
      clear ho3 hown2 hb2 hat hgrow hown hfin
      go_wp2
      go_ret
      exact ⟨_, rfl, HO.out, HB2.out⟩
end Go.Proofs.YtomckoldfdeidaaGreatDoor
