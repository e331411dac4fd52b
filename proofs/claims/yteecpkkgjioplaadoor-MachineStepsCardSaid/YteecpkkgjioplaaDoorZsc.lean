/- Texts of the proof, part 3 of 7. -/
import Derived.StillTailTactics
import Derived.Test.YteecpkkgjioplaaDoorZsb

/- baizeref15.Step: rstep_5 -/
namespace Go.Proofs.YteecpkkgjioplaaDoor
open Go.RowKit Go

set_option linter.unusedSimpArgs false in
set_option linter.unusedVariables false in
set_option maxRecDepth 100000 in
set_option maxHeartbeats 4000000 in
theorem rstep_5 (pc : Nat) (ad : Addr) (cap : Nat) (xs : List Int) (cv : Value) (l : List Ins) (a b c : Int) (w : World) (h : I32s w (.slice (some ad) xs.length cap) xs) (hl : xs.length ≤ 300) (hr : rightSt pc xs.length 0 = true) (hc : InsS w cv l) (hll : l.length ≤ 300) (hW : W32 xs) (hi' : nextP l pc xs.length = some ⟨5, a, b, c⟩) :
    Calls Tryd.prog 17 #[cv, .agg #[.int .i64 pc, .slice (some ad) xs.length cap, .int .i64 0]] w fun e w' => StPost w ((pc : Int) + 1, wx xs a (twoP 5 (gx xs b) (gx xs c)), 0) e w' := by
  obtain ⟨i0, hi, hz0, hz1, hz2⟩ := info_parts info21
  have hlen : (xs.map (Value.int .i32)).length = xs.length * 1 := by simp
  have hml : 0 + xs.length ≤ maxLen := by unfold maxLen; omega
  have hby : (0 + xs.length) * 4 ≤ 140737488355328 := by omega
  obtain ⟨hri, hpc⟩ := nextP_right hi'
  simp only [Int.toNat_natCast] at hri hpc
  have hx0 : 0 < xs.length := by have := (rightSt_iff.1 hr).1; omega
  obtain ⟨ha0, ha1, hb0, hb1, hc0, hc1⟩ := right_www (by simp) hri
  obtain ⟨a, rfl⟩ := Int.eq_ofNat_of_zero_le ha0
  obtain ⟨b, rfl⟩ := Int.eq_ofNat_of_zero_le hb0
  obtain ⟨c, rfl⟩ := Int.eq_ofNat_of_zero_le hc0
  obtain ⟨mb, mo, rfl, lm, hk⟩ := h.look hx0
  have Hk := Lib.hid hk
  have Hn := Lib.hid h
  have Hr := Lib.hid hr
  have Hri := Lib.hid hri
  have Hc := Lib.hid hc
  have Hi := Lib.hid hi'
  have pc0 : (pc : Int) ≤ 300 := by omega
  clear h hr hc hi' hri hk
  go_enter Tryd.func17, Tryd.ntmps17
  go_upto_region 1 with (fail)
  go_cut [5] (fun v5 wc => ∃ pb g cap', v5 = .pointer (some ⟨pb, 0, none⟩) ∧ Head w wc pb g cap' pc (.slice (some ⟨mb, mo, none⟩) xs.length cap) xs 0)
  case first =>
    refine wp_region_held_drew (S := fun w' => w'.cell? ⟨w.heap.size, 0, none⟩ = some (.int .i64 pc) ∧ w'.cell? ⟨w.heap.size, 1, none⟩ = some (.slice (some ⟨mb, mo, none⟩) xs.length cap) ∧ w'.cell? ⟨w.heap.size, 2, none⟩ = some (.int .i64 0)) (by kernel_rfl) (by refine ⟨?_, ?_, ?_⟩ <;> go_simp) (fun hHeld => ?_)
    refine hd_take (i := 0) (some 9) (v := ?v0) rfl rfl (by kernel_rfl) (by kernel_rfl) (by kernel_rfl) (fun _ _ _ h => h) (by rfl) ?h0 (by assumption) ?r0
    case h0 =>
      intro w hSw
      (try dsimp only at hSw)
      go_simp
      (try with_reducible rfl)
    try simp only [Act.put, List.setIfInBounds_toArray, List.set_cons_zero, List.set_cons_succ]
    refine hd_take (i := 1) (some 10) (v := ?v1) rfl rfl (by kernel_rfl) (by kernel_rfl) (by kernel_rfl) (fun _ _ _ h => h) (by rfl) ?h1 (by assumption) ?r1
    case h1 =>
      intro w hSw
      (try dsimp only at hSw)
      go_simp
      (try with_reducible rfl)
    try simp only [Act.put, List.setIfInBounds_toArray, List.set_cons_zero, List.set_cons_succ]
    refine hd_take (i := 3) (some 12) (v := ?v3) rfl rfl (by kernel_rfl) (by kernel_rfl) (by kernel_rfl) (fun _ _ _ h => h) (by rfl) ?h3 (by assumption) ?r3
    case h3 =>
      intro w hSw
      (try dsimp only at hSw)
      go_simp
      (try with_reducible rfl)
    try simp only [Act.put, List.setIfInBounds_toArray, List.set_cons_zero, List.set_cons_succ]
    refine hd_take (i := 4) (some 13) (v := ?v4) rfl rfl (by kernel_rfl) (by kernel_rfl) (by kernel_rfl) (fun _ _ _ h => h) (by rfl) ?h4 (by assumption) ?r4
    case h4 =>
      intro w hSw
      (try dsimp only at hSw)
      go_simp
      (try with_reducible rfl)
    try simp only [Act.put, List.setIfInBounds_toArray, List.set_cons_zero, List.set_cons_succ]
    refine hd_take (i := 6) (some 15) (v := ?v6) rfl rfl (by kernel_rfl) (by kernel_rfl) (by kernel_rfl) (fun _ _ _ h => h) (by rfl) ?h6 (by assumption) ?r6
    case h6 =>
      intro w hSw
      (try dsimp only at hSw)
      go_simp
      (try with_reducible rfl)
    try simp only [Act.put, List.setIfInBounds_toArray, List.set_cons_zero, List.set_cons_succ]
    refine hd_take (i := 7) (some 16) (v := ?v7) rfl rfl (by kernel_rfl) (by kernel_rfl) (by kernel_rfl) (fun _ _ _ h => h) (by rfl) ?h7 (by assumption) ?r7
    case h7 =>
      intro w hSw
      (try dsimp only at hSw)
      go_simp
      (try with_reducible rfl)
    try simp only [Act.put, List.setIfInBounds_toArray, List.set_cons_zero, List.set_cons_succ]
    refine wpAnyH_ready (rs := [2, 9]) (by kernel_rfl) (by simp) ?_
    refine AllReadyH.cons rfl (fun K hK => ?_) (AllReadyH.cons rfl (fun K hK => ?_) AllReadyH.nil)
    · go_simp
      refine hK.out _ _ (by refine ⟨?_, ?_, ?_⟩ <;> go_simp) (fun hH2 => ?_)
      clear hK K
      refine wpAnyH_ready (rs := [5, 9]) (by kernel_rfl) (by simp) ?_
      refine AllReadyH.cons rfl (fun K hK => ?_) (AllReadyH.cons rfl (fun K hK => ?_) AllReadyH.nil)
      · refine step_append_made _ (by rfl) _ _ _ (by rfl) (w.heap.size + 2) 21 i0 _ 1 4 Tryd.underlying23 hi hz0 hz1 hz2 rfl (by omega) ⟨w.heap.size + 2, 0, none⟩ 0 0 [] (by rfl) (by first | exact ownsRow_empty _ _ (by simp) (by omega) | exact ownsRow_empty2 _ _ _ (by simp) (by omega)) ⟨mb, mo, none⟩ xs.length cap (xs.map (Value.int .i32)) (by rfl) hlen (Hn.out.news' (by repeat (first | exact Below.refl _ _ | exact Nat.le_refl _ | apply Below.drew | (refine Below.alloc ?_ (by simp <;> omega) _)))) (one_i32 xs) hml hby (by simp <;> omega) ?_
        intro g cap' w1 hown hgrow
        refine hK.out _ _ (by refine ⟨?_, ?_, ?_⟩ <;> (rw [hgrow.cell_far _ (by simp <;> omega) (by simp <;> omega)]; go_simp)) (fun hH5 => ?_)
        clear hK K
        try simp only [Act.put, List.setIfInBounds_toArray, List.set_cons_zero, List.set_cons_succ]
        rw [Nat.zero_add, List.nil_append] at hown
        rw [Nat.zero_add]
        have hs1 := hgrow.size
        simp at hs1
        refine hd_take (i := 8) (some 17) (v := ?v8x1) rfl rfl (by kernel_rfl) (by kernel_rfl) (by kernel_rfl) (fun _ _ _ h => h) (by rfl) ?h8x1 (by assumption) ?r8x1
        case h8x1 =>
          intro w hSw
          (try dsimp only at hSw)
          go_simp
          (try with_reducible rfl)
        try simp only [Act.put, List.setIfInBounds_toArray, List.set_cons_zero, List.set_cons_succ]
        refine wpAnyH_ready (rs := [9]) (by kernel_rfl) (by simp) ?_
        refine AllReadyH.cons rfl (fun K hK => ?_) AllReadyH.nil
        go_simp
        refine hK.out _ _ (by refine ⟨?_, ?_, ?_⟩ <;> (rw [World.cell?_alloc_past _ _ _ (by omega)]; first | exact hH5.1 | exact hH5.2.1 | exact hH5.2.2)) (fun hH9 => ?_)
        clear hK K
        refine wpAnyH_ready (rs := [10]) (by kernel_rfl) (by simp) ?_
        refine AllReadyH.cons rfl (fun K hK => ?_) AllReadyH.nil
        go_simp
        refine hK.out _ _ (by refine ⟨?_, ?_, ?_⟩ <;> (rw [World.cell?_alloc_past _ _ _ (by omega)]; first | exact hH5.1 | exact hH5.2.1 | exact hH5.2.2)) (fun hH10 => ?_)
        clear hK K
        refine wpAnyH_done (by kernel_rfl) ?_ _
        go_wp2_with fail
        go_meet
        case rel => exact ⟨_, g, cap', rfl, head_new w _ w1 g cap' pc (.slice (some ⟨mb, mo, none⟩) xs.length cap) xs 0 hown hgrow (by repeat (first | exact Below.refl _ _ | exact Nat.le_refl _ | apply Below.drew | (refine Below.alloc ?_ (by simp <;> omega) _))) (by simp <;> omega) (by simp <;> omega) (fun i => by go_simp) (fun i => by go_simp) (fun i => by go_simp)⟩
      · go_simp
        refine hK.out _ _ (by refine ⟨?_, ?_, ?_⟩ <;> go_simp) (fun hH9 => ?_)
        clear hK K
        refine wpAnyH_ready (rs := [5]) (by kernel_rfl) (by simp) ?_
        refine AllReadyH.cons rfl (fun K hK => ?_) AllReadyH.nil
        refine step_append_made _ (by rfl) _ _ _ (by rfl) (w.heap.size + 2) 21 i0 _ 1 4 Tryd.underlying23 hi hz0 hz1 hz2 rfl (by omega) ⟨w.heap.size + 2, 0, none⟩ 0 0 [] (by rfl) (by first | exact ownsRow_empty _ _ (by simp) (by omega) | exact ownsRow_empty2 _ _ _ (by simp) (by omega)) ⟨mb, mo, none⟩ xs.length cap (xs.map (Value.int .i32)) (by rfl) hlen (Hn.out.news' (by repeat (first | exact Below.refl _ _ | exact Nat.le_refl _ | apply Below.drew | (refine Below.alloc ?_ (by simp <;> omega) _)))) (one_i32 xs) hml hby (by simp <;> omega) ?_
        intro g cap' w1 hown hgrow
        refine hK.out _ _ (by refine ⟨?_, ?_, ?_⟩ <;> (rw [hgrow.cell_far _ (by simp <;> omega) (by simp <;> omega)]; go_simp)) (fun hH5 => ?_)
        clear hK K
        try simp only [Act.put, List.setIfInBounds_toArray, List.set_cons_zero, List.set_cons_succ]
        rw [Nat.zero_add, List.nil_append] at hown
        rw [Nat.zero_add]
        have hs1 := hgrow.size
        simp at hs1
        have o0 : ∀ i, w1.cell? ⟨w.heap.size + 3, i, none⟩ = #[Value.int .i64 0, .slice none 0 0, .int .i64 0][i]? := fun i => (hgrow.cell_far _ (by simp <;> omega) (by simp <;> omega)).trans (by go_simp)
        have of : ∀ i, w1.frozen? ⟨w.heap.size + 3, i, none⟩ = false := fun i => (hgrow.frozen_far _ (by simp <;> omega) (by simp <;> omega)).trans (by go_simp)
        refine hd_take (i := 8) (some 17) (v := ?v8x2) rfl rfl (by kernel_rfl) (by kernel_rfl) (by kernel_rfl) (fun _ _ _ h => h) (by rfl) ?h8x2 (by assumption) ?r8x2
        case h8x2 =>
          intro w hSw
          (try dsimp only at hSw)
          go_simp
          (try with_reducible rfl)
        try simp only [Act.put, List.setIfInBounds_toArray, List.set_cons_zero, List.set_cons_succ]
        refine wpAnyH_ready (rs := [10]) (by kernel_rfl) (by simp) ?_
        refine AllReadyH.cons rfl (fun K hK => ?_) AllReadyH.nil
        go_simp
        refine hK.out _ _ (by refine ⟨?_, ?_, ?_⟩ <;> (rw [World.cell?_setCell_far _ _ _ _ (by simp <;> omega), World.cell?_setCell_far _ _ _ _ (by simp <;> omega), World.cell?_setCell_far _ _ _ _ (by simp <;> omega)]; first | exact hH5.1 | exact hH5.2.1 | exact hH5.2.2)) (fun hH10 => ?_)
        clear hK K
        refine wpAnyH_done (by kernel_rfl) ?_ _
        go_wp2_with fail
        go_meet
        case rel => exact ⟨_, g, cap', rfl, head_old w _ w1 _ _ g cap' pc (.slice (some ⟨mb, mo, none⟩) xs.length cap) xs 0 hown hgrow (by repeat (first | exact Below.refl _ _ | exact Nat.le_refl _ | apply Below.drew | (refine Below.alloc ?_ (by simp <;> omega) _))) (by simp <;> omega) (by simp <;> omega) (by simp <;> omega) (by simp <;> omega) (by simp <;> omega) (fun i => by go_simp) (fun i => by go_simp) (fun i => by go_simp) (by first | exact heap_at1 _ _ _ (by simp) | exact heap_at2 _ _ _ _ (by simp))⟩
    · go_simp
      refine hK.out _ _ (by refine ⟨?_, ?_, ?_⟩ <;> go_simp) (fun hH9 => ?_)
      clear hK K
      refine wpAnyH_ready (rs := [2]) (by kernel_rfl) (by simp) ?_
      refine AllReadyH.cons rfl (fun K hK => ?_) AllReadyH.nil
      go_simp
      refine hK.out _ _ (by refine ⟨?_, ?_, ?_⟩ <;> go_simp) (fun hH2 => ?_)
      clear hK K
      refine wpAnyH_ready (rs := [5]) (by kernel_rfl) (by simp) ?_
      refine AllReadyH.cons rfl (fun K hK => ?_) AllReadyH.nil
      refine step_append_made _ (by rfl) _ _ _ (by rfl) (w.heap.size + 2) 21 i0 _ 1 4 Tryd.underlying23 hi hz0 hz1 hz2 rfl (by omega) ⟨w.heap.size + 3, 0, none⟩ 0 0 [] (by rfl) (by first | exact ownsRow_empty _ _ (by simp) (by omega) | exact ownsRow_empty2 _ _ _ (by simp) (by omega)) ⟨mb, mo, none⟩ xs.length cap (xs.map (Value.int .i32)) (by rfl) hlen (Hn.out.news' (by repeat (first | exact Below.refl _ _ | exact Nat.le_refl _ | apply Below.drew | (refine Below.alloc ?_ (by simp <;> omega) _)))) (one_i32 xs) hml hby (by simp <;> omega) ?_
      intro g cap' w1 hown hgrow
      refine hK.out _ _ (by refine ⟨?_, ?_, ?_⟩ <;> (rw [hgrow.cell_far _ (by simp <;> omega) (by simp <;> omega)]; go_simp)) (fun hH5 => ?_)
      clear hK K
      try simp only [Act.put, List.setIfInBounds_toArray, List.set_cons_zero, List.set_cons_succ]
      rw [Nat.zero_add, List.nil_append] at hown
      rw [Nat.zero_add]
      have hs1 := hgrow.size
      simp at hs1
      have o0 : ∀ i, w1.cell? ⟨w.heap.size + 2, i, none⟩ = #[Value.int .i64 0, .slice none 0 0, .int .i64 0][i]? := fun i => (hgrow.cell_far _ (by simp <;> omega) (by simp <;> omega)).trans (by go_simp)
      have of : ∀ i, w1.frozen? ⟨w.heap.size + 2, i, none⟩ = false := fun i => (hgrow.frozen_far _ (by simp <;> omega) (by simp <;> omega)).trans (by go_simp)
      refine hd_take (i := 8) (some 17) (v := ?v8x3) rfl rfl (by kernel_rfl) (by kernel_rfl) (by kernel_rfl) (fun _ _ _ h => h) (by rfl) ?h8x3 (by assumption) ?r8x3
      case h8x3 =>
        intro w hSw
        (try dsimp only at hSw)
        go_simp
        (try with_reducible rfl)
      try simp only [Act.put, List.setIfInBounds_toArray, List.set_cons_zero, List.set_cons_succ]
      refine wpAnyH_ready (rs := [10]) (by kernel_rfl) (by simp) ?_
      refine AllReadyH.cons rfl (fun K hK => ?_) AllReadyH.nil
      go_simp
      refine hK.out _ _ (by refine ⟨?_, ?_, ?_⟩ <;> (rw [World.cell?_setCell_far _ _ _ _ (by simp <;> omega), World.cell?_setCell_far _ _ _ _ (by simp <;> omega), World.cell?_setCell_far _ _ _ _ (by simp <;> omega)]; first | exact hH5.1 | exact hH5.2.1 | exact hH5.2.2)) (fun hH10 => ?_)
      clear hK K
      refine wpAnyH_done (by kernel_rfl) ?_ _
      go_wp2_with fail
      go_meet
      case rel => exact ⟨_, g, cap', rfl, head_old w _ w1 _ _ g cap' pc (.slice (some ⟨mb, mo, none⟩) xs.length cap) xs 0 hown hgrow (by repeat (first | exact Below.refl _ _ | exact Nat.le_refl _ | apply Below.drew | (refine Below.alloc ?_ (by simp <;> omega) _))) (by simp <;> omega) (by simp <;> omega) (by simp <;> omega) (by simp <;> omega) (by simp <;> omega) (fun i => by go_simp) (fun i => by go_simp) (fun i => by go_simp) (by first | exact heap_at1 _ _ _ (by simp) | exact heap_at2 _ _ _ _ (by simp))⟩
  case rest =>
    obtain ⟨pb, g, cap', rfl, hH⟩ := hcut
    have HH := Lib.hid hH
    have bx := hH.box
    clear hH
    go_wp2_with fail
    refine (rright_any pc 0 _ _ _ _).mono ?_
    rintro e w1 ⟨rfl, hb1⟩
    have hs0 := HH.out.below.size
    have hpb := HH.out.lpb
    have hlp := HH.out.lp
    have bx1 : ∀ i, w1.cell? ⟨w.heap.size, i, none⟩ = #[Value.int .i64 pc, .slice (some ⟨mb, mo, none⟩) xs.length cap, .int .i64 0][i]? := fun i => (hb1.cell (p := ⟨w.heap.size, i, none⟩) (by show w.heap.size < _; omega)).trans (bx i)
    have HB1 := Lib.hid hb1
    clear bx hb1
    rw [Hr.out]
    go_wp2_with fail
    refine (rnext_yes pc _ _ _ l cv _ _ Hr.out ((Hc.out.below HH.out.below (Nat.le_refl _)).below HB1.out (Nat.le_refl _)) hll Hi.out).mono ?_
    rintro e w2 ⟨rfl, hb2⟩
    have hs1 := HB1.out.size
    have hs2 := hb2.size
    have HM2 : Hid (MSt w2 pb g cap' pc xs 0) := Lib.hid ((HH.out.st.below hx0 HB1.out).below hx0 hb2)
    have HB2 : Hid (Below w.heap.size w w2) := Lib.hid ((HH.out.below.trans (HB1.out.mono (by omega))).trans (hb2.mono (by omega)))
    have bx2 : ∀ i, w2.cell? ⟨w.heap.size, i, none⟩ = #[Value.int .i64 pc, .slice (some ⟨mb, mo, none⟩) xs.length cap, .int .i64 0][i]? := fun i => (hb2.cell (p := ⟨w.heap.size, i, none⟩) (by show w.heap.size < _; omega)).trans (bx1 i)
    have rs2 : ∀ i, w2.cell? ⟨w.heap.size + 1, i, none⟩ = #[Value.int .i64 0, .slice none 0 0, .int .i64 0][i]? := fun i => (hb2.cell (p := ⟨w.heap.size + 1, i, none⟩) (by show w.heap.size + 1 < _; omega)).trans ((HB1.out.cell (p := ⟨w.heap.size + 1, i, none⟩) (by show w.heap.size + 1 < _; omega)).trans (HH.out.res i))
    have fr2 : ∀ i, w2.frozen? ⟨w.heap.size + 1, i, none⟩ = false := fun i => (hb2.frozen (p := ⟨w.heap.size + 1, i, none⟩) (by show w.heap.size + 1 < _; omega)).trans ((HB1.out.frozen (p := ⟨w.heap.size + 1, i, none⟩) (by show w.heap.size + 1 < _; omega)).trans (HH.out.fres i))
    have mem2 : Hid (∀ k x, xs[k]? = some x → w2.cell? ⟨mb, mo + k, none⟩ = some (.int .i32 x)) := Lib.hid fun k x hx => (HB2.out.cell (p := ⟨mb, mo + k, none⟩) lm).trans (Hk.out k x hx)
    have lr2 : w.heap.size + 1 < w2.heap.size := by omega
    have lb2 : w.heap.size < w2.heap.size := by omega
    have lp2 : pb < w2.heap.size := by omega
    have lg2 : g < w2.heap.size := by have := HH.out.lgb; omega
    have lm2 : mb < w2.heap.size := by omega
    have hlw := lm
    have hpg := HH.out.st.ne
    have hlg := HH.out.lg
    have hlp' := HH.out.lp
    have q0 := HM2.out.st.c0
    have q1 := HM2.out.st.c1
    have q2 := HM2.out.st.c2
    have zp := HM2.out.fp
    have zg := HM2.out.fm
    clear bx1 hb2 hs0 hs1 hs2 hpb hlp
    go_upto_region 12 with (fail)
    obtain ⟨W, hW⟩ : ∃ W, W = (w2.setCell ⟨pb, 0, none⟩ (.int .i64 ((pc : Int) + 1))).alloc (.cells #[.int .i64 5, .int .i64 a, .int .i64 b, .int .i64 c] 58) := ⟨_, rfl⟩
    rw [← hW]
    obtain ⟨HM, HB, bxW, rsW, frW, memW, inW, szW⟩ := rdy HM2.out HB2.out hx0 bx2 rs2 fr2 mem2.out lm HH.out.lp lp2 lg2 hW
    replace HM := Lib.hid HM
    replace HB := Lib.hid HB
    replace memW := Lib.hid memW
    clear hW bx2 rs2 fr2 mem2 HM2 HB2 q0 q1 q2 zp zg
    have q0 := HM.out.st.c0
    have q1 := HM.out.st.c1
    have q2 := HM.out.st.c2
    have zp := HM.out.fp
    have zg := HM.out.fm
    generalize w2.heap.size = ib at *
    have lgW : g < W.heap.size := by omega
    have hbp : ¬ w.heap.size = pb := by omega
    have hbg : ¬ w.heap.size = g := by omega
    have hrp : ¬ w.heap.size + 1 = pb := by omega
    have hrg : ¬ w.heap.size + 1 = g := by omega
    have hig : ¬ ib = g := by omega
    have hip : ¬ ib = pb := by omega
    have hmp : ¬ mb = pb := by omega
    have hmg : ¬ mb = g := by omega
    have rdb := memW.out b _ (gx_at (show b < xs.length by omega))
    have lb : (b : Int) < (xs.length : Int) := by omega
    have rdc := memW.out c _ (gx_at (show c < xs.length by omega))
    have lc : (c : Int) < (xs.length : Int) := by omega
    obtain ⟨xa, ga⟩ : ∃ xa, W.cell? ⟨g, a, none⟩ = some xa := ⟨_, HM.out.cells a _ (gx_at (show a < xs.length by omega))⟩
    have lda : (a : Int) < (xs.length : Int) := by omega
    have B_b : -2147483648 ≤ gx xs b ∧ gx xs b ≤ 2147483647 := hW.gx (by omega)
    have B_c : -2147483648 ≤ gx xs c ∧ gx xs c ≤ 2147483647 := hW.gx (by omega)
    go_wp2_with fail
    go_still_tail 19, (by kernel_rfl)
    still_call ((rtwo_any 5 _ _ _ (by decide) (by decide) B_b.1 B_b.2 B_c.1 B_c.2).mono (by rintro e w' ⟨rfl, rfl⟩; exact ⟨rfl, rfl⟩))
    repeat still_step
    try refine wpStill_nil ?_
    go_wp2
    refine bodyPost_ret (v := .agg #[.int .i64 ((pc : Int) + 1), .slice (some ⟨g, 0, none⟩) xs.length cap', .int .i64 (0)]) (by simp [results, Tryd.results17, go_sem, *]) rfl ?_
    refine StPost.drew ?_
    exact fin (HM.out.setMem (a := a) (by omega) (twoP 5 (gx xs b) (gx xs c))) (HB.out.setCell (by show w.heap.size ≤ g; omega) _) HH.out.lk hx0 (wx_len _ _ _) hlg
end Go.Proofs.YteecpkkgjioplaaDoor

/- baizeref15.Step: rstep_6 -/
namespace Go.Proofs.YteecpkkgjioplaaDoor
open Go.RowKit Go

set_option linter.unusedSimpArgs false in
set_option linter.unusedVariables false in
set_option maxRecDepth 100000 in
set_option maxHeartbeats 4000000 in
theorem rstep_6 (pc : Nat) (ad : Addr) (cap : Nat) (xs : List Int) (cv : Value) (l : List Ins) (a b c : Int) (w : World) (h : I32s w (.slice (some ad) xs.length cap) xs) (hl : xs.length ≤ 300) (hr : rightSt pc xs.length 0 = true) (hc : InsS w cv l) (hll : l.length ≤ 300) (hW : W32 xs) (hi' : nextP l pc xs.length = some ⟨6, a, b, c⟩) :
    Calls Tryd.prog 17 #[cv, .agg #[.int .i64 pc, .slice (some ad) xs.length cap, .int .i64 0]] w fun e w' => StPost w ((pc : Int) + 1, wx xs a (twoP 6 (gx xs b) (gx xs c)), 0) e w' := by
  obtain ⟨i0, hi, hz0, hz1, hz2⟩ := info_parts info21
  have hlen : (xs.map (Value.int .i32)).length = xs.length * 1 := by simp
  have hml : 0 + xs.length ≤ maxLen := by unfold maxLen; omega
  have hby : (0 + xs.length) * 4 ≤ 140737488355328 := by omega
  obtain ⟨hri, hpc⟩ := nextP_right hi'
  simp only [Int.toNat_natCast] at hri hpc
  have hx0 : 0 < xs.length := by have := (rightSt_iff.1 hr).1; omega
  obtain ⟨ha0, ha1, hb0, hb1, hc0, hc1⟩ := right_www (by simp) hri
  obtain ⟨a, rfl⟩ := Int.eq_ofNat_of_zero_le ha0
  obtain ⟨b, rfl⟩ := Int.eq_ofNat_of_zero_le hb0
  obtain ⟨c, rfl⟩ := Int.eq_ofNat_of_zero_le hc0
  obtain ⟨mb, mo, rfl, lm, hk⟩ := h.look hx0
  have Hk := Lib.hid hk
  have Hn := Lib.hid h
  have Hr := Lib.hid hr
  have Hri := Lib.hid hri
  have Hc := Lib.hid hc
  have Hi := Lib.hid hi'
  have pc0 : (pc : Int) ≤ 300 := by omega
  clear h hr hc hi' hri hk
  go_enter Tryd.func17, Tryd.ntmps17
  go_upto_region 1 with (fail)
  go_cut [5] (fun v5 wc => ∃ pb g cap', v5 = .pointer (some ⟨pb, 0, none⟩) ∧ Head w wc pb g cap' pc (.slice (some ⟨mb, mo, none⟩) xs.length cap) xs 0)
  case first =>
    refine wp_region_held_drew (S := fun w' => w'.cell? ⟨w.heap.size, 0, none⟩ = some (.int .i64 pc) ∧ w'.cell? ⟨w.heap.size, 1, none⟩ = some (.slice (some ⟨mb, mo, none⟩) xs.length cap) ∧ w'.cell? ⟨w.heap.size, 2, none⟩ = some (.int .i64 0)) (by kernel_rfl) (by refine ⟨?_, ?_, ?_⟩ <;> go_simp) (fun hHeld => ?_)
    refine hd_take (i := 0) (some 9) (v := ?v0) rfl rfl (by kernel_rfl) (by kernel_rfl) (by kernel_rfl) (fun _ _ _ h => h) (by rfl) ?h0 (by assumption) ?r0
    case h0 =>
      intro w hSw
      (try dsimp only at hSw)
      go_simp
      (try with_reducible rfl)
    try simp only [Act.put, List.setIfInBounds_toArray, List.set_cons_zero, List.set_cons_succ]
    refine hd_take (i := 1) (some 10) (v := ?v1) rfl rfl (by kernel_rfl) (by kernel_rfl) (by kernel_rfl) (fun _ _ _ h => h) (by rfl) ?h1 (by assumption) ?r1
    case h1 =>
      intro w hSw
      (try dsimp only at hSw)
      go_simp
      (try with_reducible rfl)
    try simp only [Act.put, List.setIfInBounds_toArray, List.set_cons_zero, List.set_cons_succ]
    refine hd_take (i := 3) (some 12) (v := ?v3) rfl rfl (by kernel_rfl) (by kernel_rfl) (by kernel_rfl) (fun _ _ _ h => h) (by rfl) ?h3 (by assumption) ?r3
    case h3 =>
      intro w hSw
      (try dsimp only at hSw)
      go_simp
      (try with_reducible rfl)
    try simp only [Act.put, List.setIfInBounds_toArray, List.set_cons_zero, List.set_cons_succ]
    refine hd_take (i := 4) (some 13) (v := ?v4) rfl rfl (by kernel_rfl) (by kernel_rfl) (by kernel_rfl) (fun _ _ _ h => h) (by rfl) ?h4 (by assumption) ?r4
    case h4 =>
      intro w hSw
      (try dsimp only at hSw)
      go_simp
      (try with_reducible rfl)
    try simp only [Act.put, List.setIfInBounds_toArray, List.set_cons_zero, List.set_cons_succ]
    refine hd_take (i := 6) (some 15) (v := ?v6) rfl rfl (by kernel_rfl) (by kernel_rfl) (by kernel_rfl) (fun _ _ _ h => h) (by rfl) ?h6 (by assumption) ?r6
    case h6 =>
      intro w hSw
      (try dsimp only at hSw)
      go_simp
      (try with_reducible rfl)
    try simp only [Act.put, List.setIfInBounds_toArray, List.set_cons_zero, List.set_cons_succ]
    refine hd_take (i := 7) (some 16) (v := ?v7) rfl rfl (by kernel_rfl) (by kernel_rfl) (by kernel_rfl) (fun _ _ _ h => h) (by rfl) ?h7 (by assumption) ?r7
    case h7 =>
      intro w hSw
      (try dsimp only at hSw)
      go_simp
      (try with_reducible rfl)
    try simp only [Act.put, List.setIfInBounds_toArray, List.set_cons_zero, List.set_cons_succ]
    refine wpAnyH_ready (rs := [2, 9]) (by kernel_rfl) (by simp) ?_
    refine AllReadyH.cons rfl (fun K hK => ?_) (AllReadyH.cons rfl (fun K hK => ?_) AllReadyH.nil)
    · go_simp
      refine hK.out _ _ (by refine ⟨?_, ?_, ?_⟩ <;> go_simp) (fun hH2 => ?_)
      clear hK K
      refine wpAnyH_ready (rs := [5, 9]) (by kernel_rfl) (by simp) ?_
      refine AllReadyH.cons rfl (fun K hK => ?_) (AllReadyH.cons rfl (fun K hK => ?_) AllReadyH.nil)
      · refine step_append_made _ (by rfl) _ _ _ (by rfl) (w.heap.size + 2) 21 i0 _ 1 4 Tryd.underlying23 hi hz0 hz1 hz2 rfl (by omega) ⟨w.heap.size + 2, 0, none⟩ 0 0 [] (by rfl) (by first | exact ownsRow_empty _ _ (by simp) (by omega) | exact ownsRow_empty2 _ _ _ (by simp) (by omega)) ⟨mb, mo, none⟩ xs.length cap (xs.map (Value.int .i32)) (by rfl) hlen (Hn.out.news' (by repeat (first | exact Below.refl _ _ | exact Nat.le_refl _ | apply Below.drew | (refine Below.alloc ?_ (by simp <;> omega) _)))) (one_i32 xs) hml hby (by simp <;> omega) ?_
        intro g cap' w1 hown hgrow
        refine hK.out _ _ (by refine ⟨?_, ?_, ?_⟩ <;> (rw [hgrow.cell_far _ (by simp <;> omega) (by simp <;> omega)]; go_simp)) (fun hH5 => ?_)
        clear hK K
        try simp only [Act.put, List.setIfInBounds_toArray, List.set_cons_zero, List.set_cons_succ]
        rw [Nat.zero_add, List.nil_append] at hown
        rw [Nat.zero_add]
        have hs1 := hgrow.size
        simp at hs1
        refine hd_take (i := 8) (some 17) (v := ?v8x1) rfl rfl (by kernel_rfl) (by kernel_rfl) (by kernel_rfl) (fun _ _ _ h => h) (by rfl) ?h8x1 (by assumption) ?r8x1
        case h8x1 =>
          intro w hSw
          (try dsimp only at hSw)
          go_simp
          (try with_reducible rfl)
        try simp only [Act.put, List.setIfInBounds_toArray, List.set_cons_zero, List.set_cons_succ]
        refine wpAnyH_ready (rs := [9]) (by kernel_rfl) (by simp) ?_
        refine AllReadyH.cons rfl (fun K hK => ?_) AllReadyH.nil
        go_simp
        refine hK.out _ _ (by refine ⟨?_, ?_, ?_⟩ <;> (rw [World.cell?_alloc_past _ _ _ (by omega)]; first | exact hH5.1 | exact hH5.2.1 | exact hH5.2.2)) (fun hH9 => ?_)
        clear hK K
        refine wpAnyH_ready (rs := [10]) (by kernel_rfl) (by simp) ?_
        refine AllReadyH.cons rfl (fun K hK => ?_) AllReadyH.nil
        go_simp
        refine hK.out _ _ (by refine ⟨?_, ?_, ?_⟩ <;> (rw [World.cell?_alloc_past _ _ _ (by omega)]; first | exact hH5.1 | exact hH5.2.1 | exact hH5.2.2)) (fun hH10 => ?_)
        clear hK K
        refine wpAnyH_done (by kernel_rfl) ?_ _
        go_wp2_with fail
        go_meet
        case rel => exact ⟨_, g, cap', rfl, head_new w _ w1 g cap' pc (.slice (some ⟨mb, mo, none⟩) xs.length cap) xs 0 hown hgrow (by repeat (first | exact Below.refl _ _ | exact Nat.le_refl _ | apply Below.drew | (refine Below.alloc ?_ (by simp <;> omega) _))) (by simp <;> omega) (by simp <;> omega) (fun i => by go_simp) (fun i => by go_simp) (fun i => by go_simp)⟩
      · go_simp
        refine hK.out _ _ (by refine ⟨?_, ?_, ?_⟩ <;> go_simp) (fun hH9 => ?_)
        clear hK K
        refine wpAnyH_ready (rs := [5]) (by kernel_rfl) (by simp) ?_
        refine AllReadyH.cons rfl (fun K hK => ?_) AllReadyH.nil
        refine step_append_made _ (by rfl) _ _ _ (by rfl) (w.heap.size + 2) 21 i0 _ 1 4 Tryd.underlying23 hi hz0 hz1 hz2 rfl (by omega) ⟨w.heap.size + 2, 0, none⟩ 0 0 [] (by rfl) (by first | exact ownsRow_empty _ _ (by simp) (by omega) | exact ownsRow_empty2 _ _ _ (by simp) (by omega)) ⟨mb, mo, none⟩ xs.length cap (xs.map (Value.int .i32)) (by rfl) hlen (Hn.out.news' (by repeat (first | exact Below.refl _ _ | exact Nat.le_refl _ | apply Below.drew | (refine Below.alloc ?_ (by simp <;> omega) _)))) (one_i32 xs) hml hby (by simp <;> omega) ?_
        intro g cap' w1 hown hgrow
        refine hK.out _ _ (by refine ⟨?_, ?_, ?_⟩ <;> (rw [hgrow.cell_far _ (by simp <;> omega) (by simp <;> omega)]; go_simp)) (fun hH5 => ?_)
        clear hK K
        try simp only [Act.put, List.setIfInBounds_toArray, List.set_cons_zero, List.set_cons_succ]
        rw [Nat.zero_add, List.nil_append] at hown
        rw [Nat.zero_add]
        have hs1 := hgrow.size
        simp at hs1
        have o0 : ∀ i, w1.cell? ⟨w.heap.size + 3, i, none⟩ = #[Value.int .i64 0, .slice none 0 0, .int .i64 0][i]? := fun i => (hgrow.cell_far _ (by simp <;> omega) (by simp <;> omega)).trans (by go_simp)
        have of : ∀ i, w1.frozen? ⟨w.heap.size + 3, i, none⟩ = false := fun i => (hgrow.frozen_far _ (by simp <;> omega) (by simp <;> omega)).trans (by go_simp)
        refine hd_take (i := 8) (some 17) (v := ?v8x2) rfl rfl (by kernel_rfl) (by kernel_rfl) (by kernel_rfl) (fun _ _ _ h => h) (by rfl) ?h8x2 (by assumption) ?r8x2
        case h8x2 =>
          intro w hSw
          (try dsimp only at hSw)
          go_simp
          (try with_reducible rfl)
        try simp only [Act.put, List.setIfInBounds_toArray, List.set_cons_zero, List.set_cons_succ]
        refine wpAnyH_ready (rs := [10]) (by kernel_rfl) (by simp) ?_
        refine AllReadyH.cons rfl (fun K hK => ?_) AllReadyH.nil
        go_simp
        refine hK.out _ _ (by refine ⟨?_, ?_, ?_⟩ <;> (rw [World.cell?_setCell_far _ _ _ _ (by simp <;> omega), World.cell?_setCell_far _ _ _ _ (by simp <;> omega), World.cell?_setCell_far _ _ _ _ (by simp <;> omega)]; first | exact hH5.1 | exact hH5.2.1 | exact hH5.2.2)) (fun hH10 => ?_)
        clear hK K
        refine wpAnyH_done (by kernel_rfl) ?_ _
        go_wp2_with fail
        go_meet
        case rel => exact ⟨_, g, cap', rfl, head_old w _ w1 _ _ g cap' pc (.slice (some ⟨mb, mo, none⟩) xs.length cap) xs 0 hown hgrow (by repeat (first | exact Below.refl _ _ | exact Nat.le_refl _ | apply Below.drew | (refine Below.alloc ?_ (by simp <;> omega) _))) (by simp <;> omega) (by simp <;> omega) (by simp <;> omega) (by simp <;> omega) (by simp <;> omega) (fun i => by go_simp) (fun i => by go_simp) (fun i => by go_simp) (by first | exact heap_at1 _ _ _ (by simp) | exact heap_at2 _ _ _ _ (by simp))⟩
    · go_simp
      refine hK.out _ _ (by refine ⟨?_, ?_, ?_⟩ <;> go_simp) (fun hH9 => ?_)
      clear hK K
      refine wpAnyH_ready (rs := [2]) (by kernel_rfl) (by simp) ?_
      refine AllReadyH.cons rfl (fun K hK => ?_) AllReadyH.nil
      go_simp
      refine hK.out _ _ (by refine ⟨?_, ?_, ?_⟩ <;> go_simp) (fun hH2 => ?_)
      clear hK K
      refine wpAnyH_ready (rs := [5]) (by kernel_rfl) (by simp) ?_
      refine AllReadyH.cons rfl (fun K hK => ?_) AllReadyH.nil
      refine step_append_made _ (by rfl) _ _ _ (by rfl) (w.heap.size + 2) 21 i0 _ 1 4 Tryd.underlying23 hi hz0 hz1 hz2 rfl (by omega) ⟨w.heap.size + 3, 0, none⟩ 0 0 [] (by rfl) (by first | exact ownsRow_empty _ _ (by simp) (by omega) | exact ownsRow_empty2 _ _ _ (by simp) (by omega)) ⟨mb, mo, none⟩ xs.length cap (xs.map (Value.int .i32)) (by rfl) hlen (Hn.out.news' (by repeat (first | exact Below.refl _ _ | exact Nat.le_refl _ | apply Below.drew | (refine Below.alloc ?_ (by simp <;> omega) _)))) (one_i32 xs) hml hby (by simp <;> omega) ?_
      intro g cap' w1 hown hgrow
      refine hK.out _ _ (by refine ⟨?_, ?_, ?_⟩ <;> (rw [hgrow.cell_far _ (by simp <;> omega) (by simp <;> omega)]; go_simp)) (fun hH5 => ?_)
      clear hK K
      try simp only [Act.put, List.setIfInBounds_toArray, List.set_cons_zero, List.set_cons_succ]
      rw [Nat.zero_add, List.nil_append] at hown
      rw [Nat.zero_add]
      have hs1 := hgrow.size
      simp at hs1
      have o0 : ∀ i, w1.cell? ⟨w.heap.size + 2, i, none⟩ = #[Value.int .i64 0, .slice none 0 0, .int .i64 0][i]? := fun i => (hgrow.cell_far _ (by simp <;> omega) (by simp <;> omega)).trans (by go_simp)
      have of : ∀ i, w1.frozen? ⟨w.heap.size + 2, i, none⟩ = false := fun i => (hgrow.frozen_far _ (by simp <;> omega) (by simp <;> omega)).trans (by go_simp)
      refine hd_take (i := 8) (some 17) (v := ?v8x3) rfl rfl (by kernel_rfl) (by kernel_rfl) (by kernel_rfl) (fun _ _ _ h => h) (by rfl) ?h8x3 (by assumption) ?r8x3
      case h8x3 =>
        intro w hSw
        (try dsimp only at hSw)
        go_simp
        (try with_reducible rfl)
      try simp only [Act.put, List.setIfInBounds_toArray, List.set_cons_zero, List.set_cons_succ]
      refine wpAnyH_ready (rs := [10]) (by kernel_rfl) (by simp) ?_
      refine AllReadyH.cons rfl (fun K hK => ?_) AllReadyH.nil
      go_simp
      refine hK.out _ _ (by refine ⟨?_, ?_, ?_⟩ <;> (rw [World.cell?_setCell_far _ _ _ _ (by simp <;> omega), World.cell?_setCell_far _ _ _ _ (by simp <;> omega), World.cell?_setCell_far _ _ _ _ (by simp <;> omega)]; first | exact hH5.1 | exact hH5.2.1 | exact hH5.2.2)) (fun hH10 => ?_)
      clear hK K
      refine wpAnyH_done (by kernel_rfl) ?_ _
      go_wp2_with fail
      go_meet
      case rel => exact ⟨_, g, cap', rfl, head_old w _ w1 _ _ g cap' pc (.slice (some ⟨mb, mo, none⟩) xs.length cap) xs 0 hown hgrow (by repeat (first | exact Below.refl _ _ | exact Nat.le_refl _ | apply Below.drew | (refine Below.alloc ?_ (by simp <;> omega) _))) (by simp <;> omega) (by simp <;> omega) (by simp <;> omega) (by simp <;> omega) (by simp <;> omega) (fun i => by go_simp) (fun i => by go_simp) (fun i => by go_simp) (by first | exact heap_at1 _ _ _ (by simp) | exact heap_at2 _ _ _ _ (by simp))⟩
  case rest =>
    obtain ⟨pb, g, cap', rfl, hH⟩ := hcut
    have HH := Lib.hid hH
    have bx := hH.box
    clear hH
    go_wp2_with fail
    refine (rright_any pc 0 _ _ _ _).mono ?_
    rintro e w1 ⟨rfl, hb1⟩
    have hs0 := HH.out.below.size
    have hpb := HH.out.lpb
    have hlp := HH.out.lp
    have bx1 : ∀ i, w1.cell? ⟨w.heap.size, i, none⟩ = #[Value.int .i64 pc, .slice (some ⟨mb, mo, none⟩) xs.length cap, .int .i64 0][i]? := fun i => (hb1.cell (p := ⟨w.heap.size, i, none⟩) (by show w.heap.size < _; omega)).trans (bx i)
    have HB1 := Lib.hid hb1
    clear bx hb1
    rw [Hr.out]
    go_wp2_with fail
    refine (rnext_yes pc _ _ _ l cv _ _ Hr.out ((Hc.out.below HH.out.below (Nat.le_refl _)).below HB1.out (Nat.le_refl _)) hll Hi.out).mono ?_
    rintro e w2 ⟨rfl, hb2⟩
    have hs1 := HB1.out.size
    have hs2 := hb2.size
    have HM2 : Hid (MSt w2 pb g cap' pc xs 0) := Lib.hid ((HH.out.st.below hx0 HB1.out).below hx0 hb2)
    have HB2 : Hid (Below w.heap.size w w2) := Lib.hid ((HH.out.below.trans (HB1.out.mono (by omega))).trans (hb2.mono (by omega)))
    have bx2 : ∀ i, w2.cell? ⟨w.heap.size, i, none⟩ = #[Value.int .i64 pc, .slice (some ⟨mb, mo, none⟩) xs.length cap, .int .i64 0][i]? := fun i => (hb2.cell (p := ⟨w.heap.size, i, none⟩) (by show w.heap.size < _; omega)).trans (bx1 i)
    have rs2 : ∀ i, w2.cell? ⟨w.heap.size + 1, i, none⟩ = #[Value.int .i64 0, .slice none 0 0, .int .i64 0][i]? := fun i => (hb2.cell (p := ⟨w.heap.size + 1, i, none⟩) (by show w.heap.size + 1 < _; omega)).trans ((HB1.out.cell (p := ⟨w.heap.size + 1, i, none⟩) (by show w.heap.size + 1 < _; omega)).trans (HH.out.res i))
    have fr2 : ∀ i, w2.frozen? ⟨w.heap.size + 1, i, none⟩ = false := fun i => (hb2.frozen (p := ⟨w.heap.size + 1, i, none⟩) (by show w.heap.size + 1 < _; omega)).trans ((HB1.out.frozen (p := ⟨w.heap.size + 1, i, none⟩) (by show w.heap.size + 1 < _; omega)).trans (HH.out.fres i))
    have mem2 : Hid (∀ k x, xs[k]? = some x → w2.cell? ⟨mb, mo + k, none⟩ = some (.int .i32 x)) := Lib.hid fun k x hx => (HB2.out.cell (p := ⟨mb, mo + k, none⟩) lm).trans (Hk.out k x hx)
    have lr2 : w.heap.size + 1 < w2.heap.size := by omega
    have lb2 : w.heap.size < w2.heap.size := by omega
    have lp2 : pb < w2.heap.size := by omega
    have lg2 : g < w2.heap.size := by have := HH.out.lgb; omega
    have lm2 : mb < w2.heap.size := by omega
    have hlw := lm
    have hpg := HH.out.st.ne
    have hlg := HH.out.lg
    have hlp' := HH.out.lp
    have q0 := HM2.out.st.c0
    have q1 := HM2.out.st.c1
    have q2 := HM2.out.st.c2
    have zp := HM2.out.fp
    have zg := HM2.out.fm
    clear bx1 hb2 hs0 hs1 hs2 hpb hlp
    go_upto_region 12 with (fail)
    obtain ⟨W, hW⟩ : ∃ W, W = (w2.setCell ⟨pb, 0, none⟩ (.int .i64 ((pc : Int) + 1))).alloc (.cells #[.int .i64 6, .int .i64 a, .int .i64 b, .int .i64 c] 58) := ⟨_, rfl⟩
    rw [← hW]
    obtain ⟨HM, HB, bxW, rsW, frW, memW, inW, szW⟩ := rdy HM2.out HB2.out hx0 bx2 rs2 fr2 mem2.out lm HH.out.lp lp2 lg2 hW
    replace HM := Lib.hid HM
    replace HB := Lib.hid HB
    replace memW := Lib.hid memW
    clear hW bx2 rs2 fr2 mem2 HM2 HB2 q0 q1 q2 zp zg
    have q0 := HM.out.st.c0
    have q1 := HM.out.st.c1
    have q2 := HM.out.st.c2
    have zp := HM.out.fp
    have zg := HM.out.fm
    generalize w2.heap.size = ib at *
    have lgW : g < W.heap.size := by omega
    have hbp : ¬ w.heap.size = pb := by omega
    have hbg : ¬ w.heap.size = g := by omega
    have hrp : ¬ w.heap.size + 1 = pb := by omega
    have hrg : ¬ w.heap.size + 1 = g := by omega
    have hig : ¬ ib = g := by omega
    have hip : ¬ ib = pb := by omega
    have hmp : ¬ mb = pb := by omega
    have hmg : ¬ mb = g := by omega
    have rdb := memW.out b _ (gx_at (show b < xs.length by omega))
    have lb : (b : Int) < (xs.length : Int) := by omega
    have rdc := memW.out c _ (gx_at (show c < xs.length by omega))
    have lc : (c : Int) < (xs.length : Int) := by omega
    obtain ⟨xa, ga⟩ : ∃ xa, W.cell? ⟨g, a, none⟩ = some xa := ⟨_, HM.out.cells a _ (gx_at (show a < xs.length by omega))⟩
    have lda : (a : Int) < (xs.length : Int) := by omega
    have B_b : -2147483648 ≤ gx xs b ∧ gx xs b ≤ 2147483647 := hW.gx (by omega)
    have B_c : -2147483648 ≤ gx xs c ∧ gx xs c ≤ 2147483647 := hW.gx (by omega)
    go_wp2_with fail
    go_still_tail 19, (by kernel_rfl)
    still_call ((rtwo_any 6 _ _ _ (by decide) (by decide) B_b.1 B_b.2 B_c.1 B_c.2).mono (by rintro e w' ⟨rfl, rfl⟩; exact ⟨rfl, rfl⟩))
    repeat still_step
    try refine wpStill_nil ?_
    go_wp2
    refine bodyPost_ret (v := .agg #[.int .i64 ((pc : Int) + 1), .slice (some ⟨g, 0, none⟩) xs.length cap', .int .i64 (0)]) (by simp [results, Tryd.results17, go_sem, *]) rfl ?_
    refine StPost.drew ?_
    exact fin (HM.out.setMem (a := a) (by omega) (twoP 6 (gx xs b) (gx xs c))) (HB.out.setCell (by show w.heap.size ≤ g; omega) _) HH.out.lk hx0 (wx_len _ _ _) hlg
end Go.Proofs.YteecpkkgjioplaaDoor

/- baizeref15.Step: rstep_7 -/
namespace Go.Proofs.YteecpkkgjioplaaDoor
open Go.RowKit Go

set_option linter.unusedSimpArgs false in
set_option linter.unusedVariables false in
set_option maxRecDepth 100000 in
set_option maxHeartbeats 4000000 in
theorem rstep_7 (pc : Nat) (ad : Addr) (cap : Nat) (xs : List Int) (cv : Value) (l : List Ins) (a b c : Int) (w : World) (h : I32s w (.slice (some ad) xs.length cap) xs) (hl : xs.length ≤ 300) (hr : rightSt pc xs.length 0 = true) (hc : InsS w cv l) (hll : l.length ≤ 300) (hW : W32 xs) (hi' : nextP l pc xs.length = some ⟨7, a, b, c⟩) :
    Calls Tryd.prog 17 #[cv, .agg #[.int .i64 pc, .slice (some ad) xs.length cap, .int .i64 0]] w fun e w' => StPost w ((pc : Int) + 1, wx xs a (twoP 7 (gx xs b) (gx xs c)), 0) e w' := by
  obtain ⟨i0, hi, hz0, hz1, hz2⟩ := info_parts info21
  have hlen : (xs.map (Value.int .i32)).length = xs.length * 1 := by simp
  have hml : 0 + xs.length ≤ maxLen := by unfold maxLen; omega
  have hby : (0 + xs.length) * 4 ≤ 140737488355328 := by omega
  obtain ⟨hri, hpc⟩ := nextP_right hi'
  simp only [Int.toNat_natCast] at hri hpc
  have hx0 : 0 < xs.length := by have := (rightSt_iff.1 hr).1; omega
  obtain ⟨ha0, ha1, hb0, hb1, hc0, hc1⟩ := right_www (by simp) hri
  obtain ⟨a, rfl⟩ := Int.eq_ofNat_of_zero_le ha0
  obtain ⟨b, rfl⟩ := Int.eq_ofNat_of_zero_le hb0
  obtain ⟨c, rfl⟩ := Int.eq_ofNat_of_zero_le hc0
  obtain ⟨mb, mo, rfl, lm, hk⟩ := h.look hx0
  have Hk := Lib.hid hk
  have Hn := Lib.hid h
  have Hr := Lib.hid hr
  have Hri := Lib.hid hri
  have Hc := Lib.hid hc
  have Hi := Lib.hid hi'
  have pc0 : (pc : Int) ≤ 300 := by omega
  clear h hr hc hi' hri hk
  go_enter Tryd.func17, Tryd.ntmps17
  go_upto_region 1 with (fail)
  go_cut [5] (fun v5 wc => ∃ pb g cap', v5 = .pointer (some ⟨pb, 0, none⟩) ∧ Head w wc pb g cap' pc (.slice (some ⟨mb, mo, none⟩) xs.length cap) xs 0)
  case first =>
    refine wp_region_held_drew (S := fun w' => w'.cell? ⟨w.heap.size, 0, none⟩ = some (.int .i64 pc) ∧ w'.cell? ⟨w.heap.size, 1, none⟩ = some (.slice (some ⟨mb, mo, none⟩) xs.length cap) ∧ w'.cell? ⟨w.heap.size, 2, none⟩ = some (.int .i64 0)) (by kernel_rfl) (by refine ⟨?_, ?_, ?_⟩ <;> go_simp) (fun hHeld => ?_)
    refine hd_take (i := 0) (some 9) (v := ?v0) rfl rfl (by kernel_rfl) (by kernel_rfl) (by kernel_rfl) (fun _ _ _ h => h) (by rfl) ?h0 (by assumption) ?r0
    case h0 =>
      intro w hSw
      (try dsimp only at hSw)
      go_simp
      (try with_reducible rfl)
    try simp only [Act.put, List.setIfInBounds_toArray, List.set_cons_zero, List.set_cons_succ]
    refine hd_take (i := 1) (some 10) (v := ?v1) rfl rfl (by kernel_rfl) (by kernel_rfl) (by kernel_rfl) (fun _ _ _ h => h) (by rfl) ?h1 (by assumption) ?r1
    case h1 =>
      intro w hSw
      (try dsimp only at hSw)
      go_simp
      (try with_reducible rfl)
    try simp only [Act.put, List.setIfInBounds_toArray, List.set_cons_zero, List.set_cons_succ]
    refine hd_take (i := 3) (some 12) (v := ?v3) rfl rfl (by kernel_rfl) (by kernel_rfl) (by kernel_rfl) (fun _ _ _ h => h) (by rfl) ?h3 (by assumption) ?r3
    case h3 =>
      intro w hSw
      (try dsimp only at hSw)
      go_simp
      (try with_reducible rfl)
    try simp only [Act.put, List.setIfInBounds_toArray, List.set_cons_zero, List.set_cons_succ]
    refine hd_take (i := 4) (some 13) (v := ?v4) rfl rfl (by kernel_rfl) (by kernel_rfl) (by kernel_rfl) (fun _ _ _ h => h) (by rfl) ?h4 (by assumption) ?r4
    case h4 =>
      intro w hSw
      (try dsimp only at hSw)
      go_simp
      (try with_reducible rfl)
    try simp only [Act.put, List.setIfInBounds_toArray, List.set_cons_zero, List.set_cons_succ]
    refine hd_take (i := 6) (some 15) (v := ?v6) rfl rfl (by kernel_rfl) (by kernel_rfl) (by kernel_rfl) (fun _ _ _ h => h) (by rfl) ?h6 (by assumption) ?r6
    case h6 =>
      intro w hSw
      (try dsimp only at hSw)
      go_simp
      (try with_reducible rfl)
    try simp only [Act.put, List.setIfInBounds_toArray, List.set_cons_zero, List.set_cons_succ]
    refine hd_take (i := 7) (some 16) (v := ?v7) rfl rfl (by kernel_rfl) (by kernel_rfl) (by kernel_rfl) (fun _ _ _ h => h) (by rfl) ?h7 (by assumption) ?r7
    case h7 =>
      intro w hSw
      (try dsimp only at hSw)
      go_simp
      (try with_reducible rfl)
    try simp only [Act.put, List.setIfInBounds_toArray, List.set_cons_zero, List.set_cons_succ]
    refine wpAnyH_ready (rs := [2, 9]) (by kernel_rfl) (by simp) ?_
    refine AllReadyH.cons rfl (fun K hK => ?_) (AllReadyH.cons rfl (fun K hK => ?_) AllReadyH.nil)
    · go_simp
      refine hK.out _ _ (by refine ⟨?_, ?_, ?_⟩ <;> go_simp) (fun hH2 => ?_)
      clear hK K
      refine wpAnyH_ready (rs := [5, 9]) (by kernel_rfl) (by simp) ?_
      refine AllReadyH.cons rfl (fun K hK => ?_) (AllReadyH.cons rfl (fun K hK => ?_) AllReadyH.nil)
      · refine step_append_made _ (by rfl) _ _ _ (by rfl) (w.heap.size + 2) 21 i0 _ 1 4 Tryd.underlying23 hi hz0 hz1 hz2 rfl (by omega) ⟨w.heap.size + 2, 0, none⟩ 0 0 [] (by rfl) (by first | exact ownsRow_empty _ _ (by simp) (by omega) | exact ownsRow_empty2 _ _ _ (by simp) (by omega)) ⟨mb, mo, none⟩ xs.length cap (xs.map (Value.int .i32)) (by rfl) hlen (Hn.out.news' (by repeat (first | exact Below.refl _ _ | exact Nat.le_refl _ | apply Below.drew | (refine Below.alloc ?_ (by simp <;> omega) _)))) (one_i32 xs) hml hby (by simp <;> omega) ?_
        intro g cap' w1 hown hgrow
        refine hK.out _ _ (by refine ⟨?_, ?_, ?_⟩ <;> (rw [hgrow.cell_far _ (by simp <;> omega) (by simp <;> omega)]; go_simp)) (fun hH5 => ?_)
        clear hK K
        try simp only [Act.put, List.setIfInBounds_toArray, List.set_cons_zero, List.set_cons_succ]
        rw [Nat.zero_add, List.nil_append] at hown
        rw [Nat.zero_add]
        have hs1 := hgrow.size
        simp at hs1
        refine hd_take (i := 8) (some 17) (v := ?v8x1) rfl rfl (by kernel_rfl) (by kernel_rfl) (by kernel_rfl) (fun _ _ _ h => h) (by rfl) ?h8x1 (by assumption) ?r8x1
        case h8x1 =>
          intro w hSw
          (try dsimp only at hSw)
          go_simp
          (try with_reducible rfl)
        try simp only [Act.put, List.setIfInBounds_toArray, List.set_cons_zero, List.set_cons_succ]
        refine wpAnyH_ready (rs := [9]) (by kernel_rfl) (by simp) ?_
        refine AllReadyH.cons rfl (fun K hK => ?_) AllReadyH.nil
        go_simp
        refine hK.out _ _ (by refine ⟨?_, ?_, ?_⟩ <;> (rw [World.cell?_alloc_past _ _ _ (by omega)]; first | exact hH5.1 | exact hH5.2.1 | exact hH5.2.2)) (fun hH9 => ?_)
        clear hK K
        refine wpAnyH_ready (rs := [10]) (by kernel_rfl) (by simp) ?_
        refine AllReadyH.cons rfl (fun K hK => ?_) AllReadyH.nil
        go_simp
        refine hK.out _ _ (by refine ⟨?_, ?_, ?_⟩ <;> (rw [World.cell?_alloc_past _ _ _ (by omega)]; first | exact hH5.1 | exact hH5.2.1 | exact hH5.2.2)) (fun hH10 => ?_)
        clear hK K
        refine wpAnyH_done (by kernel_rfl) ?_ _
        go_wp2_with fail
        go_meet
        case rel => exact ⟨_, g, cap', rfl, head_new w _ w1 g cap' pc (.slice (some ⟨mb, mo, none⟩) xs.length cap) xs 0 hown hgrow (by repeat (first | exact Below.refl _ _ | exact Nat.le_refl _ | apply Below.drew | (refine Below.alloc ?_ (by simp <;> omega) _))) (by simp <;> omega) (by simp <;> omega) (fun i => by go_simp) (fun i => by go_simp) (fun i => by go_simp)⟩
      · go_simp
        refine hK.out _ _ (by refine ⟨?_, ?_, ?_⟩ <;> go_simp) (fun hH9 => ?_)
        clear hK K
        refine wpAnyH_ready (rs := [5]) (by kernel_rfl) (by simp) ?_
        refine AllReadyH.cons rfl (fun K hK => ?_) AllReadyH.nil
        refine step_append_made _ (by rfl) _ _ _ (by rfl) (w.heap.size + 2) 21 i0 _ 1 4 Tryd.underlying23 hi hz0 hz1 hz2 rfl (by omega) ⟨w.heap.size + 2, 0, none⟩ 0 0 [] (by rfl) (by first | exact ownsRow_empty _ _ (by simp) (by omega) | exact ownsRow_empty2 _ _ _ (by simp) (by omega)) ⟨mb, mo, none⟩ xs.length cap (xs.map (Value.int .i32)) (by rfl) hlen (Hn.out.news' (by repeat (first | exact Below.refl _ _ | exact Nat.le_refl _ | apply Below.drew | (refine Below.alloc ?_ (by simp <;> omega) _)))) (one_i32 xs) hml hby (by simp <;> omega) ?_
        intro g cap' w1 hown hgrow
        refine hK.out _ _ (by refine ⟨?_, ?_, ?_⟩ <;> (rw [hgrow.cell_far _ (by simp <;> omega) (by simp <;> omega)]; go_simp)) (fun hH5 => ?_)
        clear hK K
        try simp only [Act.put, List.setIfInBounds_toArray, List.set_cons_zero, List.set_cons_succ]
        rw [Nat.zero_add, List.nil_append] at hown
        rw [Nat.zero_add]
        have hs1 := hgrow.size
        simp at hs1
        have o0 : ∀ i, w1.cell? ⟨w.heap.size + 3, i, none⟩ = #[Value.int .i64 0, .slice none 0 0, .int .i64 0][i]? := fun i => (hgrow.cell_far _ (by simp <;> omega) (by simp <;> omega)).trans (by go_simp)
        have of : ∀ i, w1.frozen? ⟨w.heap.size + 3, i, none⟩ = false := fun i => (hgrow.frozen_far _ (by simp <;> omega) (by simp <;> omega)).trans (by go_simp)
        refine hd_take (i := 8) (some 17) (v := ?v8x2) rfl rfl (by kernel_rfl) (by kernel_rfl) (by kernel_rfl) (fun _ _ _ h => h) (by rfl) ?h8x2 (by assumption) ?r8x2
        case h8x2 =>
          intro w hSw
          (try dsimp only at hSw)
          go_simp
          (try with_reducible rfl)
        try simp only [Act.put, List.setIfInBounds_toArray, List.set_cons_zero, List.set_cons_succ]
        refine wpAnyH_ready (rs := [10]) (by kernel_rfl) (by simp) ?_
        refine AllReadyH.cons rfl (fun K hK => ?_) AllReadyH.nil
        go_simp
        refine hK.out _ _ (by refine ⟨?_, ?_, ?_⟩ <;> (rw [World.cell?_setCell_far _ _ _ _ (by simp <;> omega), World.cell?_setCell_far _ _ _ _ (by simp <;> omega), World.cell?_setCell_far _ _ _ _ (by simp <;> omega)]; first | exact hH5.1 | exact hH5.2.1 | exact hH5.2.2)) (fun hH10 => ?_)
        clear hK K
        refine wpAnyH_done (by kernel_rfl) ?_ _
        go_wp2_with fail
        go_meet
        case rel => exact ⟨_, g, cap', rfl, head_old w _ w1 _ _ g cap' pc (.slice (some ⟨mb, mo, none⟩) xs.length cap) xs 0 hown hgrow (by repeat (first | exact Below.refl _ _ | exact Nat.le_refl _ | apply Below.drew | (refine Below.alloc ?_ (by simp <;> omega) _))) (by simp <;> omega) (by simp <;> omega) (by simp <;> omega) (by simp <;> omega) (by simp <;> omega) (fun i => by go_simp) (fun i => by go_simp) (fun i => by go_simp) (by first | exact heap_at1 _ _ _ (by simp) | exact heap_at2 _ _ _ _ (by simp))⟩
    · go_simp
      refine hK.out _ _ (by refine ⟨?_, ?_, ?_⟩ <;> go_simp) (fun hH9 => ?_)
      clear hK K
      refine wpAnyH_ready (rs := [2]) (by kernel_rfl) (by simp) ?_
      refine AllReadyH.cons rfl (fun K hK => ?_) AllReadyH.nil
      go_simp
      refine hK.out _ _ (by refine ⟨?_, ?_, ?_⟩ <;> go_simp) (fun hH2 => ?_)
      clear hK K
      refine wpAnyH_ready (rs := [5]) (by kernel_rfl) (by simp) ?_
      refine AllReadyH.cons rfl (fun K hK => ?_) AllReadyH.nil
      refine step_append_made _ (by rfl) _ _ _ (by rfl) (w.heap.size + 2) 21 i0 _ 1 4 Tryd.underlying23 hi hz0 hz1 hz2 rfl (by omega) ⟨w.heap.size + 3, 0, none⟩ 0 0 [] (by rfl) (by first | exact ownsRow_empty _ _ (by simp) (by omega) | exact ownsRow_empty2 _ _ _ (by simp) (by omega)) ⟨mb, mo, none⟩ xs.length cap (xs.map (Value.int .i32)) (by rfl) hlen (Hn.out.news' (by repeat (first | exact Below.refl _ _ | exact Nat.le_refl _ | apply Below.drew | (refine Below.alloc ?_ (by simp <;> omega) _)))) (one_i32 xs) hml hby (by simp <;> omega) ?_
      intro g cap' w1 hown hgrow
      refine hK.out _ _ (by refine ⟨?_, ?_, ?_⟩ <;> (rw [hgrow.cell_far _ (by simp <;> omega) (by simp <;> omega)]; go_simp)) (fun hH5 => ?_)
      clear hK K
      try simp only [Act.put, List.setIfInBounds_toArray, List.set_cons_zero, List.set_cons_succ]
      rw [Nat.zero_add, List.nil_append] at hown
      rw [Nat.zero_add]
      have hs1 := hgrow.size
      simp at hs1
      have o0 : ∀ i, w1.cell? ⟨w.heap.size + 2, i, none⟩ = #[Value.int .i64 0, .slice none 0 0, .int .i64 0][i]? := fun i => (hgrow.cell_far _ (by simp <;> omega) (by simp <;> omega)).trans (by go_simp)
      have of : ∀ i, w1.frozen? ⟨w.heap.size + 2, i, none⟩ = false := fun i => (hgrow.frozen_far _ (by simp <;> omega) (by simp <;> omega)).trans (by go_simp)
      refine hd_take (i := 8) (some 17) (v := ?v8x3) rfl rfl (by kernel_rfl) (by kernel_rfl) (by kernel_rfl) (fun _ _ _ h => h) (by rfl) ?h8x3 (by assumption) ?r8x3
      case h8x3 =>
        intro w hSw
        (try dsimp only at hSw)
        go_simp
        (try with_reducible rfl)
      try simp only [Act.put, List.setIfInBounds_toArray, List.set_cons_zero, List.set_cons_succ]
      refine wpAnyH_ready (rs := [10]) (by kernel_rfl) (by simp) ?_
      refine AllReadyH.cons rfl (fun K hK => ?_) AllReadyH.nil
      go_simp
      refine hK.out _ _ (by refine ⟨?_, ?_, ?_⟩ <;> (rw [World.cell?_setCell_far _ _ _ _ (by simp <;> omega), World.cell?_setCell_far _ _ _ _ (by simp <;> omega), World.cell?_setCell_far _ _ _ _ (by simp <;> omega)]; first | exact hH5.1 | exact hH5.2.1 | exact hH5.2.2)) (fun hH10 => ?_)
      clear hK K
      refine wpAnyH_done (by kernel_rfl) ?_ _
      go_wp2_with fail
      go_meet
      case rel => exact ⟨_, g, cap', rfl, head_old w _ w1 _ _ g cap' pc (.slice (some ⟨mb, mo, none⟩) xs.length cap) xs 0 hown hgrow (by repeat (first | exact Below.refl _ _ | exact Nat.le_refl _ | apply Below.drew | (refine Below.alloc ?_ (by simp <;> omega) _))) (by simp <;> omega) (by simp <;> omega) (by simp <;> omega) (by simp <;> omega) (by simp <;> omega) (fun i => by go_simp) (fun i => by go_simp) (fun i => by go_simp) (by first | exact heap_at1 _ _ _ (by simp) | exact heap_at2 _ _ _ _ (by simp))⟩
  case rest =>
    obtain ⟨pb, g, cap', rfl, hH⟩ := hcut
    have HH := Lib.hid hH
    have bx := hH.box
    clear hH
    go_wp2_with fail
    refine (rright_any pc 0 _ _ _ _).mono ?_
    rintro e w1 ⟨rfl, hb1⟩
    have hs0 := HH.out.below.size
    have hpb := HH.out.lpb
    have hlp := HH.out.lp
    have bx1 : ∀ i, w1.cell? ⟨w.heap.size, i, none⟩ = #[Value.int .i64 pc, .slice (some ⟨mb, mo, none⟩) xs.length cap, .int .i64 0][i]? := fun i => (hb1.cell (p := ⟨w.heap.size, i, none⟩) (by show w.heap.size < _; omega)).trans (bx i)
    have HB1 := Lib.hid hb1
    clear bx hb1
    rw [Hr.out]
    go_wp2_with fail
    refine (rnext_yes pc _ _ _ l cv _ _ Hr.out ((Hc.out.below HH.out.below (Nat.le_refl _)).below HB1.out (Nat.le_refl _)) hll Hi.out).mono ?_
    rintro e w2 ⟨rfl, hb2⟩
    have hs1 := HB1.out.size
    have hs2 := hb2.size
    have HM2 : Hid (MSt w2 pb g cap' pc xs 0) := Lib.hid ((HH.out.st.below hx0 HB1.out).below hx0 hb2)
    have HB2 : Hid (Below w.heap.size w w2) := Lib.hid ((HH.out.below.trans (HB1.out.mono (by omega))).trans (hb2.mono (by omega)))
    have bx2 : ∀ i, w2.cell? ⟨w.heap.size, i, none⟩ = #[Value.int .i64 pc, .slice (some ⟨mb, mo, none⟩) xs.length cap, .int .i64 0][i]? := fun i => (hb2.cell (p := ⟨w.heap.size, i, none⟩) (by show w.heap.size < _; omega)).trans (bx1 i)
    have rs2 : ∀ i, w2.cell? ⟨w.heap.size + 1, i, none⟩ = #[Value.int .i64 0, .slice none 0 0, .int .i64 0][i]? := fun i => (hb2.cell (p := ⟨w.heap.size + 1, i, none⟩) (by show w.heap.size + 1 < _; omega)).trans ((HB1.out.cell (p := ⟨w.heap.size + 1, i, none⟩) (by show w.heap.size + 1 < _; omega)).trans (HH.out.res i))
    have fr2 : ∀ i, w2.frozen? ⟨w.heap.size + 1, i, none⟩ = false := fun i => (hb2.frozen (p := ⟨w.heap.size + 1, i, none⟩) (by show w.heap.size + 1 < _; omega)).trans ((HB1.out.frozen (p := ⟨w.heap.size + 1, i, none⟩) (by show w.heap.size + 1 < _; omega)).trans (HH.out.fres i))
    have mem2 : Hid (∀ k x, xs[k]? = some x → w2.cell? ⟨mb, mo + k, none⟩ = some (.int .i32 x)) := Lib.hid fun k x hx => (HB2.out.cell (p := ⟨mb, mo + k, none⟩) lm).trans (Hk.out k x hx)
    have lr2 : w.heap.size + 1 < w2.heap.size := by omega
    have lb2 : w.heap.size < w2.heap.size := by omega
    have lp2 : pb < w2.heap.size := by omega
    have lg2 : g < w2.heap.size := by have := HH.out.lgb; omega
    have lm2 : mb < w2.heap.size := by omega
    have hlw := lm
    have hpg := HH.out.st.ne
    have hlg := HH.out.lg
    have hlp' := HH.out.lp
    have q0 := HM2.out.st.c0
    have q1 := HM2.out.st.c1
    have q2 := HM2.out.st.c2
    have zp := HM2.out.fp
    have zg := HM2.out.fm
    clear bx1 hb2 hs0 hs1 hs2 hpb hlp
    go_upto_region 12 with (fail)
    obtain ⟨W, hW⟩ : ∃ W, W = (w2.setCell ⟨pb, 0, none⟩ (.int .i64 ((pc : Int) + 1))).alloc (.cells #[.int .i64 7, .int .i64 a, .int .i64 b, .int .i64 c] 58) := ⟨_, rfl⟩
    rw [← hW]
    obtain ⟨HM, HB, bxW, rsW, frW, memW, inW, szW⟩ := rdy HM2.out HB2.out hx0 bx2 rs2 fr2 mem2.out lm HH.out.lp lp2 lg2 hW
    replace HM := Lib.hid HM
    replace HB := Lib.hid HB
    replace memW := Lib.hid memW
    clear hW bx2 rs2 fr2 mem2 HM2 HB2 q0 q1 q2 zp zg
    have q0 := HM.out.st.c0
    have q1 := HM.out.st.c1
    have q2 := HM.out.st.c2
    have zp := HM.out.fp
    have zg := HM.out.fm
    generalize w2.heap.size = ib at *
    have lgW : g < W.heap.size := by omega
    have hbp : ¬ w.heap.size = pb := by omega
    have hbg : ¬ w.heap.size = g := by omega
    have hrp : ¬ w.heap.size + 1 = pb := by omega
    have hrg : ¬ w.heap.size + 1 = g := by omega
    have hig : ¬ ib = g := by omega
    have hip : ¬ ib = pb := by omega
    have hmp : ¬ mb = pb := by omega
    have hmg : ¬ mb = g := by omega
    have rdb := memW.out b _ (gx_at (show b < xs.length by omega))
    have lb : (b : Int) < (xs.length : Int) := by omega
    have rdc := memW.out c _ (gx_at (show c < xs.length by omega))
    have lc : (c : Int) < (xs.length : Int) := by omega
    obtain ⟨xa, ga⟩ : ∃ xa, W.cell? ⟨g, a, none⟩ = some xa := ⟨_, HM.out.cells a _ (gx_at (show a < xs.length by omega))⟩
    have lda : (a : Int) < (xs.length : Int) := by omega
    have B_b : -2147483648 ≤ gx xs b ∧ gx xs b ≤ 2147483647 := hW.gx (by omega)
    have B_c : -2147483648 ≤ gx xs c ∧ gx xs c ≤ 2147483647 := hW.gx (by omega)
    go_wp2_with fail
    go_still_tail 19, (by kernel_rfl)
    still_call ((rtwo_any 7 _ _ _ (by decide) (by decide) B_b.1 B_b.2 B_c.1 B_c.2).mono (by rintro e w' ⟨rfl, rfl⟩; exact ⟨rfl, rfl⟩))
    repeat still_step
    try refine wpStill_nil ?_
    go_wp2
    refine bodyPost_ret (v := .agg #[.int .i64 ((pc : Int) + 1), .slice (some ⟨g, 0, none⟩) xs.length cap', .int .i64 (0)]) (by simp [results, Tryd.results17, go_sem, *]) rfl ?_
    refine StPost.drew ?_
    exact fin (HM.out.setMem (a := a) (by omega) (twoP 7 (gx xs b) (gx xs c))) (HB.out.setCell (by show w.heap.size ≤ g; omega) _) HH.out.lk hx0 (wx_len _ _ _) hlg
end Go.Proofs.YteecpkkgjioplaaDoor

/- baizeref15.Step: rstep_8 -/
namespace Go.Proofs.YteecpkkgjioplaaDoor
open Go.RowKit Go

set_option linter.unusedSimpArgs false in
set_option linter.unusedVariables false in
set_option maxRecDepth 100000 in
set_option maxHeartbeats 4000000 in
theorem rstep_8 (pc : Nat) (ad : Addr) (cap : Nat) (xs : List Int) (cv : Value) (l : List Ins) (a b c : Int) (w : World) (h : I32s w (.slice (some ad) xs.length cap) xs) (hl : xs.length ≤ 300) (hr : rightSt pc xs.length 0 = true) (hc : InsS w cv l) (hll : l.length ≤ 300) (hW : W32 xs) (hi' : nextP l pc xs.length = some ⟨8, a, b, c⟩) :
    Calls Tryd.prog 17 #[cv, .agg #[.int .i64 pc, .slice (some ad) xs.length cap, .int .i64 0]] w fun e w' => StPost w ((pc : Int) + 1, wx xs a (twoP 8 (gx xs b) (gx xs c)), 0) e w' := by
  obtain ⟨i0, hi, hz0, hz1, hz2⟩ := info_parts info21
  have hlen : (xs.map (Value.int .i32)).length = xs.length * 1 := by simp
  have hml : 0 + xs.length ≤ maxLen := by unfold maxLen; omega
  have hby : (0 + xs.length) * 4 ≤ 140737488355328 := by omega
  obtain ⟨hri, hpc⟩ := nextP_right hi'
  simp only [Int.toNat_natCast] at hri hpc
  have hx0 : 0 < xs.length := by have := (rightSt_iff.1 hr).1; omega
  obtain ⟨ha0, ha1, hb0, hb1, hc0, hc1⟩ := right_www (by simp) hri
  obtain ⟨a, rfl⟩ := Int.eq_ofNat_of_zero_le ha0
  obtain ⟨b, rfl⟩ := Int.eq_ofNat_of_zero_le hb0
  obtain ⟨c, rfl⟩ := Int.eq_ofNat_of_zero_le hc0
  obtain ⟨mb, mo, rfl, lm, hk⟩ := h.look hx0
  have Hk := Lib.hid hk
  have Hn := Lib.hid h
  have Hr := Lib.hid hr
  have Hri := Lib.hid hri
  have Hc := Lib.hid hc
  have Hi := Lib.hid hi'
  have pc0 : (pc : Int) ≤ 300 := by omega
  clear h hr hc hi' hri hk
  go_enter Tryd.func17, Tryd.ntmps17
  go_upto_region 1 with (fail)
  go_cut [5] (fun v5 wc => ∃ pb g cap', v5 = .pointer (some ⟨pb, 0, none⟩) ∧ Head w wc pb g cap' pc (.slice (some ⟨mb, mo, none⟩) xs.length cap) xs 0)
  case first =>
    refine wp_region_held_drew (S := fun w' => w'.cell? ⟨w.heap.size, 0, none⟩ = some (.int .i64 pc) ∧ w'.cell? ⟨w.heap.size, 1, none⟩ = some (.slice (some ⟨mb, mo, none⟩) xs.length cap) ∧ w'.cell? ⟨w.heap.size, 2, none⟩ = some (.int .i64 0)) (by kernel_rfl) (by refine ⟨?_, ?_, ?_⟩ <;> go_simp) (fun hHeld => ?_)
    refine hd_take (i := 0) (some 9) (v := ?v0) rfl rfl (by kernel_rfl) (by kernel_rfl) (by kernel_rfl) (fun _ _ _ h => h) (by rfl) ?h0 (by assumption) ?r0
    case h0 =>
      intro w hSw
      (try dsimp only at hSw)
      go_simp
      (try with_reducible rfl)
    try simp only [Act.put, List.setIfInBounds_toArray, List.set_cons_zero, List.set_cons_succ]
    refine hd_take (i := 1) (some 10) (v := ?v1) rfl rfl (by kernel_rfl) (by kernel_rfl) (by kernel_rfl) (fun _ _ _ h => h) (by rfl) ?h1 (by assumption) ?r1
    case h1 =>
      intro w hSw
      (try dsimp only at hSw)
      go_simp
      (try with_reducible rfl)
    try simp only [Act.put, List.setIfInBounds_toArray, List.set_cons_zero, List.set_cons_succ]
    refine hd_take (i := 3) (some 12) (v := ?v3) rfl rfl (by kernel_rfl) (by kernel_rfl) (by kernel_rfl) (fun _ _ _ h => h) (by rfl) ?h3 (by assumption) ?r3
    case h3 =>
      intro w hSw
      (try dsimp only at hSw)
      go_simp
      (try with_reducible rfl)
    try simp only [Act.put, List.setIfInBounds_toArray, List.set_cons_zero, List.set_cons_succ]
    refine hd_take (i := 4) (some 13) (v := ?v4) rfl rfl (by kernel_rfl) (by kernel_rfl) (by kernel_rfl) (fun _ _ _ h => h) (by rfl) ?h4 (by assumption) ?r4
    case h4 =>
      intro w hSw
      (try dsimp only at hSw)
      go_simp
      (try with_reducible rfl)
    try simp only [Act.put, List.setIfInBounds_toArray, List.set_cons_zero, List.set_cons_succ]
    refine hd_take (i := 6) (some 15) (v := ?v6) rfl rfl (by kernel_rfl) (by kernel_rfl) (by kernel_rfl) (fun _ _ _ h => h) (by rfl) ?h6 (by assumption) ?r6
    case h6 =>
      intro w hSw
      (try dsimp only at hSw)
      go_simp
      (try with_reducible rfl)
    try simp only [Act.put, List.setIfInBounds_toArray, List.set_cons_zero, List.set_cons_succ]
    refine hd_take (i := 7) (some 16) (v := ?v7) rfl rfl (by kernel_rfl) (by kernel_rfl) (by kernel_rfl) (fun _ _ _ h => h) (by rfl) ?h7 (by assumption) ?r7
    case h7 =>
      intro w hSw
      (try dsimp only at hSw)
      go_simp
      (try with_reducible rfl)
    try simp only [Act.put, List.setIfInBounds_toArray, List.set_cons_zero, List.set_cons_succ]
    refine wpAnyH_ready (rs := [2, 9]) (by kernel_rfl) (by simp) ?_
    refine AllReadyH.cons rfl (fun K hK => ?_) (AllReadyH.cons rfl (fun K hK => ?_) AllReadyH.nil)
    · go_simp
      refine hK.out _ _ (by refine ⟨?_, ?_, ?_⟩ <;> go_simp) (fun hH2 => ?_)
      clear hK K
      refine wpAnyH_ready (rs := [5, 9]) (by kernel_rfl) (by simp) ?_
      refine AllReadyH.cons rfl (fun K hK => ?_) (AllReadyH.cons rfl (fun K hK => ?_) AllReadyH.nil)
      · refine step_append_made _ (by rfl) _ _ _ (by rfl) (w.heap.size + 2) 21 i0 _ 1 4 Tryd.underlying23 hi hz0 hz1 hz2 rfl (by omega) ⟨w.heap.size + 2, 0, none⟩ 0 0 [] (by rfl) (by first | exact ownsRow_empty _ _ (by simp) (by omega) | exact ownsRow_empty2 _ _ _ (by simp) (by omega)) ⟨mb, mo, none⟩ xs.length cap (xs.map (Value.int .i32)) (by rfl) hlen (Hn.out.news' (by repeat (first | exact Below.refl _ _ | exact Nat.le_refl _ | apply Below.drew | (refine Below.alloc ?_ (by simp <;> omega) _)))) (one_i32 xs) hml hby (by simp <;> omega) ?_
        intro g cap' w1 hown hgrow
        refine hK.out _ _ (by refine ⟨?_, ?_, ?_⟩ <;> (rw [hgrow.cell_far _ (by simp <;> omega) (by simp <;> omega)]; go_simp)) (fun hH5 => ?_)
        clear hK K
        try simp only [Act.put, List.setIfInBounds_toArray, List.set_cons_zero, List.set_cons_succ]
        rw [Nat.zero_add, List.nil_append] at hown
        rw [Nat.zero_add]
        have hs1 := hgrow.size
        simp at hs1
        refine hd_take (i := 8) (some 17) (v := ?v8x1) rfl rfl (by kernel_rfl) (by kernel_rfl) (by kernel_rfl) (fun _ _ _ h => h) (by rfl) ?h8x1 (by assumption) ?r8x1
        case h8x1 =>
          intro w hSw
          (try dsimp only at hSw)
          go_simp
          (try with_reducible rfl)
        try simp only [Act.put, List.setIfInBounds_toArray, List.set_cons_zero, List.set_cons_succ]
        refine wpAnyH_ready (rs := [9]) (by kernel_rfl) (by simp) ?_
        refine AllReadyH.cons rfl (fun K hK => ?_) AllReadyH.nil
        go_simp
        refine hK.out _ _ (by refine ⟨?_, ?_, ?_⟩ <;> (rw [World.cell?_alloc_past _ _ _ (by omega)]; first | exact hH5.1 | exact hH5.2.1 | exact hH5.2.2)) (fun hH9 => ?_)
        clear hK K
        refine wpAnyH_ready (rs := [10]) (by kernel_rfl) (by simp) ?_
        refine AllReadyH.cons rfl (fun K hK => ?_) AllReadyH.nil
        go_simp
        refine hK.out _ _ (by refine ⟨?_, ?_, ?_⟩ <;> (rw [World.cell?_alloc_past _ _ _ (by omega)]; first | exact hH5.1 | exact hH5.2.1 | exact hH5.2.2)) (fun hH10 => ?_)
        clear hK K
        refine wpAnyH_done (by kernel_rfl) ?_ _
        go_wp2_with fail
        go_meet
        case rel => exact ⟨_, g, cap', rfl, head_new w _ w1 g cap' pc (.slice (some ⟨mb, mo, none⟩) xs.length cap) xs 0 hown hgrow (by repeat (first | exact Below.refl _ _ | exact Nat.le_refl _ | apply Below.drew | (refine Below.alloc ?_ (by simp <;> omega) _))) (by simp <;> omega) (by simp <;> omega) (fun i => by go_simp) (fun i => by go_simp) (fun i => by go_simp)⟩
      · go_simp
        refine hK.out _ _ (by refine ⟨?_, ?_, ?_⟩ <;> go_simp) (fun hH9 => ?_)
        clear hK K
        refine wpAnyH_ready (rs := [5]) (by kernel_rfl) (by simp) ?_
        refine AllReadyH.cons rfl (fun K hK => ?_) AllReadyH.nil
        refine step_append_made _ (by rfl) _ _ _ (by rfl) (w.heap.size + 2) 21 i0 _ 1 4 Tryd.underlying23 hi hz0 hz1 hz2 rfl (by omega) ⟨w.heap.size + 2, 0, none⟩ 0 0 [] (by rfl) (by first | exact ownsRow_empty _ _ (by simp) (by omega) | exact ownsRow_empty2 _ _ _ (by simp) (by omega)) ⟨mb, mo, none⟩ xs.length cap (xs.map (Value.int .i32)) (by rfl) hlen (Hn.out.news' (by repeat (first | exact Below.refl _ _ | exact Nat.le_refl _ | apply Below.drew | (refine Below.alloc ?_ (by simp <;> omega) _)))) (one_i32 xs) hml hby (by simp <;> omega) ?_
        intro g cap' w1 hown hgrow
        refine hK.out _ _ (by refine ⟨?_, ?_, ?_⟩ <;> (rw [hgrow.cell_far _ (by simp <;> omega) (by simp <;> omega)]; go_simp)) (fun hH5 => ?_)
        clear hK K
        try simp only [Act.put, List.setIfInBounds_toArray, List.set_cons_zero, List.set_cons_succ]
        rw [Nat.zero_add, List.nil_append] at hown
        rw [Nat.zero_add]
        have hs1 := hgrow.size
        simp at hs1
        have o0 : ∀ i, w1.cell? ⟨w.heap.size + 3, i, none⟩ = #[Value.int .i64 0, .slice none 0 0, .int .i64 0][i]? := fun i => (hgrow.cell_far _ (by simp <;> omega) (by simp <;> omega)).trans (by go_simp)
        have of : ∀ i, w1.frozen? ⟨w.heap.size + 3, i, none⟩ = false := fun i => (hgrow.frozen_far _ (by simp <;> omega) (by simp <;> omega)).trans (by go_simp)
        refine hd_take (i := 8) (some 17) (v := ?v8x2) rfl rfl (by kernel_rfl) (by kernel_rfl) (by kernel_rfl) (fun _ _ _ h => h) (by rfl) ?h8x2 (by assumption) ?r8x2
        case h8x2 =>
          intro w hSw
          (try dsimp only at hSw)
          go_simp
          (try with_reducible rfl)
        try simp only [Act.put, List.setIfInBounds_toArray, List.set_cons_zero, List.set_cons_succ]
        refine wpAnyH_ready (rs := [10]) (by kernel_rfl) (by simp) ?_
        refine AllReadyH.cons rfl (fun K hK => ?_) AllReadyH.nil
        go_simp
        refine hK.out _ _ (by refine ⟨?_, ?_, ?_⟩ <;> (rw [World.cell?_setCell_far _ _ _ _ (by simp <;> omega), World.cell?_setCell_far _ _ _ _ (by simp <;> omega), World.cell?_setCell_far _ _ _ _ (by simp <;> omega)]; first | exact hH5.1 | exact hH5.2.1 | exact hH5.2.2)) (fun hH10 => ?_)
        clear hK K
        refine wpAnyH_done (by kernel_rfl) ?_ _
        go_wp2_with fail
        go_meet
        case rel => exact ⟨_, g, cap', rfl, head_old w _ w1 _ _ g cap' pc (.slice (some ⟨mb, mo, none⟩) xs.length cap) xs 0 hown hgrow (by repeat (first | exact Below.refl _ _ | exact Nat.le_refl _ | apply Below.drew | (refine Below.alloc ?_ (by simp <;> omega) _))) (by simp <;> omega) (by simp <;> omega) (by simp <;> omega) (by simp <;> omega) (by simp <;> omega) (fun i => by go_simp) (fun i => by go_simp) (fun i => by go_simp) (by first | exact heap_at1 _ _ _ (by simp) | exact heap_at2 _ _ _ _ (by simp))⟩
    · go_simp
      refine hK.out _ _ (by refine ⟨?_, ?_, ?_⟩ <;> go_simp) (fun hH9 => ?_)
      clear hK K
      refine wpAnyH_ready (rs := [2]) (by kernel_rfl) (by simp) ?_
      refine AllReadyH.cons rfl (fun K hK => ?_) AllReadyH.nil
      go_simp
      refine hK.out _ _ (by refine ⟨?_, ?_, ?_⟩ <;> go_simp) (fun hH2 => ?_)
      clear hK K
      refine wpAnyH_ready (rs := [5]) (by kernel_rfl) (by simp) ?_
      refine AllReadyH.cons rfl (fun K hK => ?_) AllReadyH.nil
      refine step_append_made _ (by rfl) _ _ _ (by rfl) (w.heap.size + 2) 21 i0 _ 1 4 Tryd.underlying23 hi hz0 hz1 hz2 rfl (by omega) ⟨w.heap.size + 3, 0, none⟩ 0 0 [] (by rfl) (by first | exact ownsRow_empty _ _ (by simp) (by omega) | exact ownsRow_empty2 _ _ _ (by simp) (by omega)) ⟨mb, mo, none⟩ xs.length cap (xs.map (Value.int .i32)) (by rfl) hlen (Hn.out.news' (by repeat (first | exact Below.refl _ _ | exact Nat.le_refl _ | apply Below.drew | (refine Below.alloc ?_ (by simp <;> omega) _)))) (one_i32 xs) hml hby (by simp <;> omega) ?_
      intro g cap' w1 hown hgrow
      refine hK.out _ _ (by refine ⟨?_, ?_, ?_⟩ <;> (rw [hgrow.cell_far _ (by simp <;> omega) (by simp <;> omega)]; go_simp)) (fun hH5 => ?_)
      clear hK K
      try simp only [Act.put, List.setIfInBounds_toArray, List.set_cons_zero, List.set_cons_succ]
      rw [Nat.zero_add, List.nil_append] at hown
      rw [Nat.zero_add]
      have hs1 := hgrow.size
      simp at hs1
      have o0 : ∀ i, w1.cell? ⟨w.heap.size + 2, i, none⟩ = #[Value.int .i64 0, .slice none 0 0, .int .i64 0][i]? := fun i => (hgrow.cell_far _ (by simp <;> omega) (by simp <;> omega)).trans (by go_simp)
      have of : ∀ i, w1.frozen? ⟨w.heap.size + 2, i, none⟩ = false := fun i => (hgrow.frozen_far _ (by simp <;> omega) (by simp <;> omega)).trans (by go_simp)
      refine hd_take (i := 8) (some 17) (v := ?v8x3) rfl rfl (by kernel_rfl) (by kernel_rfl) (by kernel_rfl) (fun _ _ _ h => h) (by rfl) ?h8x3 (by assumption) ?r8x3
      case h8x3 =>
        intro w hSw
        (try dsimp only at hSw)
        go_simp
        (try with_reducible rfl)
      try simp only [Act.put, List.setIfInBounds_toArray, List.set_cons_zero, List.set_cons_succ]
      refine wpAnyH_ready (rs := [10]) (by kernel_rfl) (by simp) ?_
      refine AllReadyH.cons rfl (fun K hK => ?_) AllReadyH.nil
      go_simp
      refine hK.out _ _ (by refine ⟨?_, ?_, ?_⟩ <;> (rw [World.cell?_setCell_far _ _ _ _ (by simp <;> omega), World.cell?_setCell_far _ _ _ _ (by simp <;> omega), World.cell?_setCell_far _ _ _ _ (by simp <;> omega)]; first | exact hH5.1 | exact hH5.2.1 | exact hH5.2.2)) (fun hH10 => ?_)
      clear hK K
      refine wpAnyH_done (by kernel_rfl) ?_ _
      go_wp2_with fail
      go_meet
      case rel => exact ⟨_, g, cap', rfl, head_old w _ w1 _ _ g cap' pc (.slice (some ⟨mb, mo, none⟩) xs.length cap) xs 0 hown hgrow (by repeat (first | exact Below.refl _ _ | exact Nat.le_refl _ | apply Below.drew | (refine Below.alloc ?_ (by simp <;> omega) _))) (by simp <;> omega) (by simp <;> omega) (by simp <;> omega) (by simp <;> omega) (by simp <;> omega) (fun i => by go_simp) (fun i => by go_simp) (fun i => by go_simp) (by first | exact heap_at1 _ _ _ (by simp) | exact heap_at2 _ _ _ _ (by simp))⟩
  case rest =>
    obtain ⟨pb, g, cap', rfl, hH⟩ := hcut
    have HH := Lib.hid hH
    have bx := hH.box
    clear hH
    go_wp2_with fail
    refine (rright_any pc 0 _ _ _ _).mono ?_
    rintro e w1 ⟨rfl, hb1⟩
    have hs0 := HH.out.below.size
    have hpb := HH.out.lpb
    have hlp := HH.out.lp
    have bx1 : ∀ i, w1.cell? ⟨w.heap.size, i, none⟩ = #[Value.int .i64 pc, .slice (some ⟨mb, mo, none⟩) xs.length cap, .int .i64 0][i]? := fun i => (hb1.cell (p := ⟨w.heap.size, i, none⟩) (by show w.heap.size < _; omega)).trans (bx i)
    have HB1 := Lib.hid hb1
    clear bx hb1
    rw [Hr.out]
    go_wp2_with fail
    refine (rnext_yes pc _ _ _ l cv _ _ Hr.out ((Hc.out.below HH.out.below (Nat.le_refl _)).below HB1.out (Nat.le_refl _)) hll Hi.out).mono ?_
    rintro e w2 ⟨rfl, hb2⟩
    have hs1 := HB1.out.size
    have hs2 := hb2.size
    have HM2 : Hid (MSt w2 pb g cap' pc xs 0) := Lib.hid ((HH.out.st.below hx0 HB1.out).below hx0 hb2)
    have HB2 : Hid (Below w.heap.size w w2) := Lib.hid ((HH.out.below.trans (HB1.out.mono (by omega))).trans (hb2.mono (by omega)))
    have bx2 : ∀ i, w2.cell? ⟨w.heap.size, i, none⟩ = #[Value.int .i64 pc, .slice (some ⟨mb, mo, none⟩) xs.length cap, .int .i64 0][i]? := fun i => (hb2.cell (p := ⟨w.heap.size, i, none⟩) (by show w.heap.size < _; omega)).trans (bx1 i)
    have rs2 : ∀ i, w2.cell? ⟨w.heap.size + 1, i, none⟩ = #[Value.int .i64 0, .slice none 0 0, .int .i64 0][i]? := fun i => (hb2.cell (p := ⟨w.heap.size + 1, i, none⟩) (by show w.heap.size + 1 < _; omega)).trans ((HB1.out.cell (p := ⟨w.heap.size + 1, i, none⟩) (by show w.heap.size + 1 < _; omega)).trans (HH.out.res i))
    have fr2 : ∀ i, w2.frozen? ⟨w.heap.size + 1, i, none⟩ = false := fun i => (hb2.frozen (p := ⟨w.heap.size + 1, i, none⟩) (by show w.heap.size + 1 < _; omega)).trans ((HB1.out.frozen (p := ⟨w.heap.size + 1, i, none⟩) (by show w.heap.size + 1 < _; omega)).trans (HH.out.fres i))
    have mem2 : Hid (∀ k x, xs[k]? = some x → w2.cell? ⟨mb, mo + k, none⟩ = some (.int .i32 x)) := Lib.hid fun k x hx => (HB2.out.cell (p := ⟨mb, mo + k, none⟩) lm).trans (Hk.out k x hx)
    have lr2 : w.heap.size + 1 < w2.heap.size := by omega
    have lb2 : w.heap.size < w2.heap.size := by omega
    have lp2 : pb < w2.heap.size := by omega
    have lg2 : g < w2.heap.size := by have := HH.out.lgb; omega
    have lm2 : mb < w2.heap.size := by omega
    have hlw := lm
    have hpg := HH.out.st.ne
    have hlg := HH.out.lg
    have hlp' := HH.out.lp
    have q0 := HM2.out.st.c0
    have q1 := HM2.out.st.c1
    have q2 := HM2.out.st.c2
    have zp := HM2.out.fp
    have zg := HM2.out.fm
    clear bx1 hb2 hs0 hs1 hs2 hpb hlp
    go_upto_region 12 with (fail)
    obtain ⟨W, hW⟩ : ∃ W, W = (w2.setCell ⟨pb, 0, none⟩ (.int .i64 ((pc : Int) + 1))).alloc (.cells #[.int .i64 8, .int .i64 a, .int .i64 b, .int .i64 c] 58) := ⟨_, rfl⟩
    rw [← hW]
    obtain ⟨HM, HB, bxW, rsW, frW, memW, inW, szW⟩ := rdy HM2.out HB2.out hx0 bx2 rs2 fr2 mem2.out lm HH.out.lp lp2 lg2 hW
    replace HM := Lib.hid HM
    replace HB := Lib.hid HB
    replace memW := Lib.hid memW
    clear hW bx2 rs2 fr2 mem2 HM2 HB2 q0 q1 q2 zp zg
    have q0 := HM.out.st.c0
    have q1 := HM.out.st.c1
    have q2 := HM.out.st.c2
    have zp := HM.out.fp
    have zg := HM.out.fm
    generalize w2.heap.size = ib at *
    have lgW : g < W.heap.size := by omega
    have hbp : ¬ w.heap.size = pb := by omega
    have hbg : ¬ w.heap.size = g := by omega
    have hrp : ¬ w.heap.size + 1 = pb := by omega
    have hrg : ¬ w.heap.size + 1 = g := by omega
    have hig : ¬ ib = g := by omega
    have hip : ¬ ib = pb := by omega
    have hmp : ¬ mb = pb := by omega
    have hmg : ¬ mb = g := by omega
    have rdb := memW.out b _ (gx_at (show b < xs.length by omega))
    have lb : (b : Int) < (xs.length : Int) := by omega
    have rdc := memW.out c _ (gx_at (show c < xs.length by omega))
    have lc : (c : Int) < (xs.length : Int) := by omega
    obtain ⟨xa, ga⟩ : ∃ xa, W.cell? ⟨g, a, none⟩ = some xa := ⟨_, HM.out.cells a _ (gx_at (show a < xs.length by omega))⟩
    have lda : (a : Int) < (xs.length : Int) := by omega
    have B_b : -2147483648 ≤ gx xs b ∧ gx xs b ≤ 2147483647 := hW.gx (by omega)
    have B_c : -2147483648 ≤ gx xs c ∧ gx xs c ≤ 2147483647 := hW.gx (by omega)
    go_wp2_with fail
    go_still_tail 19, (by kernel_rfl)
    still_call ((rtwo_any 8 _ _ _ (by decide) (by decide) B_b.1 B_b.2 B_c.1 B_c.2).mono (by rintro e w' ⟨rfl, rfl⟩; exact ⟨rfl, rfl⟩))
    repeat still_step
    try refine wpStill_nil ?_
    go_wp2
    refine bodyPost_ret (v := .agg #[.int .i64 ((pc : Int) + 1), .slice (some ⟨g, 0, none⟩) xs.length cap', .int .i64 (0)]) (by simp [results, Tryd.results17, go_sem, *]) rfl ?_
    refine StPost.drew ?_
    exact fin (HM.out.setMem (a := a) (by omega) (twoP 8 (gx xs b) (gx xs c))) (HB.out.setCell (by show w.heap.size ≤ g; omega) _) HH.out.lk hx0 (wx_len _ _ _) hlg
end Go.Proofs.YteecpkkgjioplaaDoor

/- baizeref15.Step: rstep_9 -/
namespace Go.Proofs.YteecpkkgjioplaaDoor
open Go.RowKit Go

set_option linter.unusedSimpArgs false in
set_option linter.unusedVariables false in
set_option maxRecDepth 100000 in
set_option maxHeartbeats 4000000 in
theorem rstep_9 (pc : Nat) (ad : Addr) (cap : Nat) (xs : List Int) (cv : Value) (l : List Ins) (a b c : Int) (w : World) (h : I32s w (.slice (some ad) xs.length cap) xs) (hl : xs.length ≤ 300) (hr : rightSt pc xs.length 0 = true) (hc : InsS w cv l) (hll : l.length ≤ 300) (hW : W32 xs) (hi' : nextP l pc xs.length = some ⟨9, a, b, c⟩) :
    Calls Tryd.prog 17 #[cv, .agg #[.int .i64 pc, .slice (some ad) xs.length cap, .int .i64 0]] w fun e w' => StPost w ((pc : Int) + 1, wx xs a (twoP 9 (gx xs b) (gx xs c)), 0) e w' := by
  obtain ⟨i0, hi, hz0, hz1, hz2⟩ := info_parts info21
  have hlen : (xs.map (Value.int .i32)).length = xs.length * 1 := by simp
  have hml : 0 + xs.length ≤ maxLen := by unfold maxLen; omega
  have hby : (0 + xs.length) * 4 ≤ 140737488355328 := by omega
  obtain ⟨hri, hpc⟩ := nextP_right hi'
  simp only [Int.toNat_natCast] at hri hpc
  have hx0 : 0 < xs.length := by have := (rightSt_iff.1 hr).1; omega
  obtain ⟨ha0, ha1, hb0, hb1, hc0, hc1⟩ := right_www (by simp) hri
  obtain ⟨a, rfl⟩ := Int.eq_ofNat_of_zero_le ha0
  obtain ⟨b, rfl⟩ := Int.eq_ofNat_of_zero_le hb0
  obtain ⟨c, rfl⟩ := Int.eq_ofNat_of_zero_le hc0
  obtain ⟨mb, mo, rfl, lm, hk⟩ := h.look hx0
  have Hk := Lib.hid hk
  have Hn := Lib.hid h
  have Hr := Lib.hid hr
  have Hri := Lib.hid hri
  have Hc := Lib.hid hc
  have Hi := Lib.hid hi'
  have pc0 : (pc : Int) ≤ 300 := by omega
  clear h hr hc hi' hri hk
  go_enter Tryd.func17, Tryd.ntmps17
  go_upto_region 1 with (fail)
  go_cut [5] (fun v5 wc => ∃ pb g cap', v5 = .pointer (some ⟨pb, 0, none⟩) ∧ Head w wc pb g cap' pc (.slice (some ⟨mb, mo, none⟩) xs.length cap) xs 0)
  case first =>
    refine wp_region_held_drew (S := fun w' => w'.cell? ⟨w.heap.size, 0, none⟩ = some (.int .i64 pc) ∧ w'.cell? ⟨w.heap.size, 1, none⟩ = some (.slice (some ⟨mb, mo, none⟩) xs.length cap) ∧ w'.cell? ⟨w.heap.size, 2, none⟩ = some (.int .i64 0)) (by kernel_rfl) (by refine ⟨?_, ?_, ?_⟩ <;> go_simp) (fun hHeld => ?_)
    refine hd_take (i := 0) (some 9) (v := ?v0) rfl rfl (by kernel_rfl) (by kernel_rfl) (by kernel_rfl) (fun _ _ _ h => h) (by rfl) ?h0 (by assumption) ?r0
    case h0 =>
      intro w hSw
      (try dsimp only at hSw)
      go_simp
      (try with_reducible rfl)
    try simp only [Act.put, List.setIfInBounds_toArray, List.set_cons_zero, List.set_cons_succ]
    refine hd_take (i := 1) (some 10) (v := ?v1) rfl rfl (by kernel_rfl) (by kernel_rfl) (by kernel_rfl) (fun _ _ _ h => h) (by rfl) ?h1 (by assumption) ?r1
    case h1 =>
      intro w hSw
      (try dsimp only at hSw)
      go_simp
      (try with_reducible rfl)
    try simp only [Act.put, List.setIfInBounds_toArray, List.set_cons_zero, List.set_cons_succ]
    refine hd_take (i := 3) (some 12) (v := ?v3) rfl rfl (by kernel_rfl) (by kernel_rfl) (by kernel_rfl) (fun _ _ _ h => h) (by rfl) ?h3 (by assumption) ?r3
    case h3 =>
      intro w hSw
      (try dsimp only at hSw)
      go_simp
      (try with_reducible rfl)
    try simp only [Act.put, List.setIfInBounds_toArray, List.set_cons_zero, List.set_cons_succ]
    refine hd_take (i := 4) (some 13) (v := ?v4) rfl rfl (by kernel_rfl) (by kernel_rfl) (by kernel_rfl) (fun _ _ _ h => h) (by rfl) ?h4 (by assumption) ?r4
    case h4 =>
      intro w hSw
      (try dsimp only at hSw)
      go_simp
      (try with_reducible rfl)
    try simp only [Act.put, List.setIfInBounds_toArray, List.set_cons_zero, List.set_cons_succ]
    refine hd_take (i := 6) (some 15) (v := ?v6) rfl rfl (by kernel_rfl) (by kernel_rfl) (by kernel_rfl) (fun _ _ _ h => h) (by rfl) ?h6 (by assumption) ?r6
    case h6 =>
      intro w hSw
      (try dsimp only at hSw)
      go_simp
      (try with_reducible rfl)
    try simp only [Act.put, List.setIfInBounds_toArray, List.set_cons_zero, List.set_cons_succ]
    refine hd_take (i := 7) (some 16) (v := ?v7) rfl rfl (by kernel_rfl) (by kernel_rfl) (by kernel_rfl) (fun _ _ _ h => h) (by rfl) ?h7 (by assumption) ?r7
    case h7 =>
      intro w hSw
      (try dsimp only at hSw)
      go_simp
      (try with_reducible rfl)
    try simp only [Act.put, List.setIfInBounds_toArray, List.set_cons_zero, List.set_cons_succ]
    refine wpAnyH_ready (rs := [2, 9]) (by kernel_rfl) (by simp) ?_
    refine AllReadyH.cons rfl (fun K hK => ?_) (AllReadyH.cons rfl (fun K hK => ?_) AllReadyH.nil)
    · go_simp
      refine hK.out _ _ (by refine ⟨?_, ?_, ?_⟩ <;> go_simp) (fun hH2 => ?_)
      clear hK K
      refine wpAnyH_ready (rs := [5, 9]) (by kernel_rfl) (by simp) ?_
      refine AllReadyH.cons rfl (fun K hK => ?_) (AllReadyH.cons rfl (fun K hK => ?_) AllReadyH.nil)
      · refine step_append_made _ (by rfl) _ _ _ (by rfl) (w.heap.size + 2) 21 i0 _ 1 4 Tryd.underlying23 hi hz0 hz1 hz2 rfl (by omega) ⟨w.heap.size + 2, 0, none⟩ 0 0 [] (by rfl) (by first | exact ownsRow_empty _ _ (by simp) (by omega) | exact ownsRow_empty2 _ _ _ (by simp) (by omega)) ⟨mb, mo, none⟩ xs.length cap (xs.map (Value.int .i32)) (by rfl) hlen (Hn.out.news' (by repeat (first | exact Below.refl _ _ | exact Nat.le_refl _ | apply Below.drew | (refine Below.alloc ?_ (by simp <;> omega) _)))) (one_i32 xs) hml hby (by simp <;> omega) ?_
        intro g cap' w1 hown hgrow
        refine hK.out _ _ (by refine ⟨?_, ?_, ?_⟩ <;> (rw [hgrow.cell_far _ (by simp <;> omega) (by simp <;> omega)]; go_simp)) (fun hH5 => ?_)
        clear hK K
        try simp only [Act.put, List.setIfInBounds_toArray, List.set_cons_zero, List.set_cons_succ]
        rw [Nat.zero_add, List.nil_append] at hown
        rw [Nat.zero_add]
        have hs1 := hgrow.size
        simp at hs1
        refine hd_take (i := 8) (some 17) (v := ?v8x1) rfl rfl (by kernel_rfl) (by kernel_rfl) (by kernel_rfl) (fun _ _ _ h => h) (by rfl) ?h8x1 (by assumption) ?r8x1
        case h8x1 =>
          intro w hSw
          (try dsimp only at hSw)
          go_simp
          (try with_reducible rfl)
        try simp only [Act.put, List.setIfInBounds_toArray, List.set_cons_zero, List.set_cons_succ]
        refine wpAnyH_ready (rs := [9]) (by kernel_rfl) (by simp) ?_
        refine AllReadyH.cons rfl (fun K hK => ?_) AllReadyH.nil
        go_simp
        refine hK.out _ _ (by refine ⟨?_, ?_, ?_⟩ <;> (rw [World.cell?_alloc_past _ _ _ (by omega)]; first | exact hH5.1 | exact hH5.2.1 | exact hH5.2.2)) (fun hH9 => ?_)
        clear hK K
        refine wpAnyH_ready (rs := [10]) (by kernel_rfl) (by simp) ?_
        refine AllReadyH.cons rfl (fun K hK => ?_) AllReadyH.nil
        go_simp
        refine hK.out _ _ (by refine ⟨?_, ?_, ?_⟩ <;> (rw [World.cell?_alloc_past _ _ _ (by omega)]; first | exact hH5.1 | exact hH5.2.1 | exact hH5.2.2)) (fun hH10 => ?_)
        clear hK K
        refine wpAnyH_done (by kernel_rfl) ?_ _
        go_wp2_with fail
        go_meet
        case rel => exact ⟨_, g, cap', rfl, head_new w _ w1 g cap' pc (.slice (some ⟨mb, mo, none⟩) xs.length cap) xs 0 hown hgrow (by repeat (first | exact Below.refl _ _ | exact Nat.le_refl _ | apply Below.drew | (refine Below.alloc ?_ (by simp <;> omega) _))) (by simp <;> omega) (by simp <;> omega) (fun i => by go_simp) (fun i => by go_simp) (fun i => by go_simp)⟩
      · go_simp
        refine hK.out _ _ (by refine ⟨?_, ?_, ?_⟩ <;> go_simp) (fun hH9 => ?_)
        clear hK K
        refine wpAnyH_ready (rs := [5]) (by kernel_rfl) (by simp) ?_
        refine AllReadyH.cons rfl (fun K hK => ?_) AllReadyH.nil
        refine step_append_made _ (by rfl) _ _ _ (by rfl) (w.heap.size + 2) 21 i0 _ 1 4 Tryd.underlying23 hi hz0 hz1 hz2 rfl (by omega) ⟨w.heap.size + 2, 0, none⟩ 0 0 [] (by rfl) (by first | exact ownsRow_empty _ _ (by simp) (by omega) | exact ownsRow_empty2 _ _ _ (by simp) (by omega)) ⟨mb, mo, none⟩ xs.length cap (xs.map (Value.int .i32)) (by rfl) hlen (Hn.out.news' (by repeat (first | exact Below.refl _ _ | exact Nat.le_refl _ | apply Below.drew | (refine Below.alloc ?_ (by simp <;> omega) _)))) (one_i32 xs) hml hby (by simp <;> omega) ?_
        intro g cap' w1 hown hgrow
        refine hK.out _ _ (by refine ⟨?_, ?_, ?_⟩ <;> (rw [hgrow.cell_far _ (by simp <;> omega) (by simp <;> omega)]; go_simp)) (fun hH5 => ?_)
        clear hK K
        try simp only [Act.put, List.setIfInBounds_toArray, List.set_cons_zero, List.set_cons_succ]
        rw [Nat.zero_add, List.nil_append] at hown
        rw [Nat.zero_add]
        have hs1 := hgrow.size
        simp at hs1
        have o0 : ∀ i, w1.cell? ⟨w.heap.size + 3, i, none⟩ = #[Value.int .i64 0, .slice none 0 0, .int .i64 0][i]? := fun i => (hgrow.cell_far _ (by simp <;> omega) (by simp <;> omega)).trans (by go_simp)
        have of : ∀ i, w1.frozen? ⟨w.heap.size + 3, i, none⟩ = false := fun i => (hgrow.frozen_far _ (by simp <;> omega) (by simp <;> omega)).trans (by go_simp)
        refine hd_take (i := 8) (some 17) (v := ?v8x2) rfl rfl (by kernel_rfl) (by kernel_rfl) (by kernel_rfl) (fun _ _ _ h => h) (by rfl) ?h8x2 (by assumption) ?r8x2
        case h8x2 =>
          intro w hSw
          (try dsimp only at hSw)
          go_simp
          (try with_reducible rfl)
        try simp only [Act.put, List.setIfInBounds_toArray, List.set_cons_zero, List.set_cons_succ]
        refine wpAnyH_ready (rs := [10]) (by kernel_rfl) (by simp) ?_
        refine AllReadyH.cons rfl (fun K hK => ?_) AllReadyH.nil
        go_simp
        refine hK.out _ _ (by refine ⟨?_, ?_, ?_⟩ <;> (rw [World.cell?_setCell_far _ _ _ _ (by simp <;> omega), World.cell?_setCell_far _ _ _ _ (by simp <;> omega), World.cell?_setCell_far _ _ _ _ (by simp <;> omega)]; first | exact hH5.1 | exact hH5.2.1 | exact hH5.2.2)) (fun hH10 => ?_)
        clear hK K
        refine wpAnyH_done (by kernel_rfl) ?_ _
        go_wp2_with fail
        go_meet
        case rel => exact ⟨_, g, cap', rfl, head_old w _ w1 _ _ g cap' pc (.slice (some ⟨mb, mo, none⟩) xs.length cap) xs 0 hown hgrow (by repeat (first | exact Below.refl _ _ | exact Nat.le_refl _ | apply Below.drew | (refine Below.alloc ?_ (by simp <;> omega) _))) (by simp <;> omega) (by simp <;> omega) (by simp <;> omega) (by simp <;> omega) (by simp <;> omega) (fun i => by go_simp) (fun i => by go_simp) (fun i => by go_simp) (by first | exact heap_at1 _ _ _ (by simp) | exact heap_at2 _ _ _ _ (by simp))⟩
    · go_simp
      refine hK.out _ _ (by refine ⟨?_, ?_, ?_⟩ <;> go_simp) (fun hH9 => ?_)
      clear hK K
      refine wpAnyH_ready (rs := [2]) (by kernel_rfl) (by simp) ?_
      refine AllReadyH.cons rfl (fun K hK => ?_) AllReadyH.nil
      go_simp
      refine hK.out _ _ (by refine ⟨?_, ?_, ?_⟩ <;> go_simp) (fun hH2 => ?_)
      clear hK K
      refine wpAnyH_ready (rs := [5]) (by kernel_rfl) (by simp) ?_
      refine AllReadyH.cons rfl (fun K hK => ?_) AllReadyH.nil
      refine step_append_made _ (by rfl) _ _ _ (by rfl) (w.heap.size + 2) 21 i0 _ 1 4 Tryd.underlying23 hi hz0 hz1 hz2 rfl (by omega) ⟨w.heap.size + 3, 0, none⟩ 0 0 [] (by rfl) (by first | exact ownsRow_empty _ _ (by simp) (by omega) | exact ownsRow_empty2 _ _ _ (by simp) (by omega)) ⟨mb, mo, none⟩ xs.length cap (xs.map (Value.int .i32)) (by rfl) hlen (Hn.out.news' (by repeat (first | exact Below.refl _ _ | exact Nat.le_refl _ | apply Below.drew | (refine Below.alloc ?_ (by simp <;> omega) _)))) (one_i32 xs) hml hby (by simp <;> omega) ?_
      intro g cap' w1 hown hgrow
      refine hK.out _ _ (by refine ⟨?_, ?_, ?_⟩ <;> (rw [hgrow.cell_far _ (by simp <;> omega) (by simp <;> omega)]; go_simp)) (fun hH5 => ?_)
      clear hK K
      try simp only [Act.put, List.setIfInBounds_toArray, List.set_cons_zero, List.set_cons_succ]
      rw [Nat.zero_add, List.nil_append] at hown
      rw [Nat.zero_add]
      have hs1 := hgrow.size
      simp at hs1
      have o0 : ∀ i, w1.cell? ⟨w.heap.size + 2, i, none⟩ = #[Value.int .i64 0, .slice none 0 0, .int .i64 0][i]? := fun i => (hgrow.cell_far _ (by simp <;> omega) (by simp <;> omega)).trans (by go_simp)
      have of : ∀ i, w1.frozen? ⟨w.heap.size + 2, i, none⟩ = false := fun i => (hgrow.frozen_far _ (by simp <;> omega) (by simp <;> omega)).trans (by go_simp)
      refine hd_take (i := 8) (some 17) (v := ?v8x3) rfl rfl (by kernel_rfl) (by kernel_rfl) (by kernel_rfl) (fun _ _ _ h => h) (by rfl) ?h8x3 (by assumption) ?r8x3
      case h8x3 =>
        intro w hSw
        (try dsimp only at hSw)
        go_simp
        (try with_reducible rfl)
      try simp only [Act.put, List.setIfInBounds_toArray, List.set_cons_zero, List.set_cons_succ]
      refine wpAnyH_ready (rs := [10]) (by kernel_rfl) (by simp) ?_
      refine AllReadyH.cons rfl (fun K hK => ?_) AllReadyH.nil
      go_simp
      refine hK.out _ _ (by refine ⟨?_, ?_, ?_⟩ <;> (rw [World.cell?_setCell_far _ _ _ _ (by simp <;> omega), World.cell?_setCell_far _ _ _ _ (by simp <;> omega), World.cell?_setCell_far _ _ _ _ (by simp <;> omega)]; first | exact hH5.1 | exact hH5.2.1 | exact hH5.2.2)) (fun hH10 => ?_)
      clear hK K
      refine wpAnyH_done (by kernel_rfl) ?_ _
      go_wp2_with fail
      go_meet
      case rel => exact ⟨_, g, cap', rfl, head_old w _ w1 _ _ g cap' pc (.slice (some ⟨mb, mo, none⟩) xs.length cap) xs 0 hown hgrow (by repeat (first | exact Below.refl _ _ | exact Nat.le_refl _ | apply Below.drew | (refine Below.alloc ?_ (by simp <;> omega) _))) (by simp <;> omega) (by simp <;> omega) (by simp <;> omega) (by simp <;> omega) (by simp <;> omega) (fun i => by go_simp) (fun i => by go_simp) (fun i => by go_simp) (by first | exact heap_at1 _ _ _ (by simp) | exact heap_at2 _ _ _ _ (by simp))⟩
  case rest =>
    obtain ⟨pb, g, cap', rfl, hH⟩ := hcut
    have HH := Lib.hid hH
    have bx := hH.box
    clear hH
    go_wp2_with fail
    refine (rright_any pc 0 _ _ _ _).mono ?_
    rintro e w1 ⟨rfl, hb1⟩
    have hs0 := HH.out.below.size
    have hpb := HH.out.lpb
    have hlp := HH.out.lp
    have bx1 : ∀ i, w1.cell? ⟨w.heap.size, i, none⟩ = #[Value.int .i64 pc, .slice (some ⟨mb, mo, none⟩) xs.length cap, .int .i64 0][i]? := fun i => (hb1.cell (p := ⟨w.heap.size, i, none⟩) (by show w.heap.size < _; omega)).trans (bx i)
    have HB1 := Lib.hid hb1
    clear bx hb1
    rw [Hr.out]
    go_wp2_with fail
    refine (rnext_yes pc _ _ _ l cv _ _ Hr.out ((Hc.out.below HH.out.below (Nat.le_refl _)).below HB1.out (Nat.le_refl _)) hll Hi.out).mono ?_
    rintro e w2 ⟨rfl, hb2⟩
    have hs1 := HB1.out.size
    have hs2 := hb2.size
    have HM2 : Hid (MSt w2 pb g cap' pc xs 0) := Lib.hid ((HH.out.st.below hx0 HB1.out).below hx0 hb2)
    have HB2 : Hid (Below w.heap.size w w2) := Lib.hid ((HH.out.below.trans (HB1.out.mono (by omega))).trans (hb2.mono (by omega)))
    have bx2 : ∀ i, w2.cell? ⟨w.heap.size, i, none⟩ = #[Value.int .i64 pc, .slice (some ⟨mb, mo, none⟩) xs.length cap, .int .i64 0][i]? := fun i => (hb2.cell (p := ⟨w.heap.size, i, none⟩) (by show w.heap.size < _; omega)).trans (bx1 i)
    have rs2 : ∀ i, w2.cell? ⟨w.heap.size + 1, i, none⟩ = #[Value.int .i64 0, .slice none 0 0, .int .i64 0][i]? := fun i => (hb2.cell (p := ⟨w.heap.size + 1, i, none⟩) (by show w.heap.size + 1 < _; omega)).trans ((HB1.out.cell (p := ⟨w.heap.size + 1, i, none⟩) (by show w.heap.size + 1 < _; omega)).trans (HH.out.res i))
    have fr2 : ∀ i, w2.frozen? ⟨w.heap.size + 1, i, none⟩ = false := fun i => (hb2.frozen (p := ⟨w.heap.size + 1, i, none⟩) (by show w.heap.size + 1 < _; omega)).trans ((HB1.out.frozen (p := ⟨w.heap.size + 1, i, none⟩) (by show w.heap.size + 1 < _; omega)).trans (HH.out.fres i))
    have mem2 : Hid (∀ k x, xs[k]? = some x → w2.cell? ⟨mb, mo + k, none⟩ = some (.int .i32 x)) := Lib.hid fun k x hx => (HB2.out.cell (p := ⟨mb, mo + k, none⟩) lm).trans (Hk.out k x hx)
    have lr2 : w.heap.size + 1 < w2.heap.size := by omega
    have lb2 : w.heap.size < w2.heap.size := by omega
    have lp2 : pb < w2.heap.size := by omega
    have lg2 : g < w2.heap.size := by have := HH.out.lgb; omega
    have lm2 : mb < w2.heap.size := by omega
    have hlw := lm
    have hpg := HH.out.st.ne
    have hlg := HH.out.lg
    have hlp' := HH.out.lp
    have q0 := HM2.out.st.c0
    have q1 := HM2.out.st.c1
    have q2 := HM2.out.st.c2
    have zp := HM2.out.fp
    have zg := HM2.out.fm
    clear bx1 hb2 hs0 hs1 hs2 hpb hlp
    go_upto_region 12 with (fail)
    obtain ⟨W, hW⟩ : ∃ W, W = (w2.setCell ⟨pb, 0, none⟩ (.int .i64 ((pc : Int) + 1))).alloc (.cells #[.int .i64 9, .int .i64 a, .int .i64 b, .int .i64 c] 58) := ⟨_, rfl⟩
    rw [← hW]
    obtain ⟨HM, HB, bxW, rsW, frW, memW, inW, szW⟩ := rdy HM2.out HB2.out hx0 bx2 rs2 fr2 mem2.out lm HH.out.lp lp2 lg2 hW
    replace HM := Lib.hid HM
    replace HB := Lib.hid HB
    replace memW := Lib.hid memW
    clear hW bx2 rs2 fr2 mem2 HM2 HB2 q0 q1 q2 zp zg
    have q0 := HM.out.st.c0
    have q1 := HM.out.st.c1
    have q2 := HM.out.st.c2
    have zp := HM.out.fp
    have zg := HM.out.fm
    generalize w2.heap.size = ib at *
    have lgW : g < W.heap.size := by omega
    have hbp : ¬ w.heap.size = pb := by omega
    have hbg : ¬ w.heap.size = g := by omega
    have hrp : ¬ w.heap.size + 1 = pb := by omega
    have hrg : ¬ w.heap.size + 1 = g := by omega
    have hig : ¬ ib = g := by omega
    have hip : ¬ ib = pb := by omega
    have hmp : ¬ mb = pb := by omega
    have hmg : ¬ mb = g := by omega
    have rdb := memW.out b _ (gx_at (show b < xs.length by omega))
    have lb : (b : Int) < (xs.length : Int) := by omega
    have rdc := memW.out c _ (gx_at (show c < xs.length by omega))
    have lc : (c : Int) < (xs.length : Int) := by omega
    obtain ⟨xa, ga⟩ : ∃ xa, W.cell? ⟨g, a, none⟩ = some xa := ⟨_, HM.out.cells a _ (gx_at (show a < xs.length by omega))⟩
    have lda : (a : Int) < (xs.length : Int) := by omega
    have B_b : -2147483648 ≤ gx xs b ∧ gx xs b ≤ 2147483647 := hW.gx (by omega)
    have B_c : -2147483648 ≤ gx xs c ∧ gx xs c ≤ 2147483647 := hW.gx (by omega)
    go_wp2_with fail
    go_still_tail 19, (by kernel_rfl)
    still_call ((rtwo_any 9 _ _ _ (by decide) (by decide) B_b.1 B_b.2 B_c.1 B_c.2).mono (by rintro e w' ⟨rfl, rfl⟩; exact ⟨rfl, rfl⟩))
    repeat still_step
    try refine wpStill_nil ?_
    go_wp2
    refine bodyPost_ret (v := .agg #[.int .i64 ((pc : Int) + 1), .slice (some ⟨g, 0, none⟩) xs.length cap', .int .i64 (0)]) (by simp [results, Tryd.results17, go_sem, *]) rfl ?_
    refine StPost.drew ?_
    exact fin (HM.out.setMem (a := a) (by omega) (twoP 9 (gx xs b) (gx xs c))) (HB.out.setCell (by show w.heap.size ≤ g; omega) _) HH.out.lk hx0 (wx_len _ _ _) hlg
end Go.Proofs.YteecpkkgjioplaaDoor

/- baizeref15.Step: rstep_10 -/
namespace Go.Proofs.YteecpkkgjioplaaDoor
open Go.RowKit Go

set_option linter.unusedSimpArgs false in
set_option linter.unusedVariables false in
set_option maxRecDepth 100000 in
set_option maxHeartbeats 4000000 in
theorem rstep_10 (pc : Nat) (ad : Addr) (cap : Nat) (xs : List Int) (cv : Value) (l : List Ins) (a b c : Int) (w : World) (h : I32s w (.slice (some ad) xs.length cap) xs) (hl : xs.length ≤ 300) (hr : rightSt pc xs.length 0 = true) (hc : InsS w cv l) (hll : l.length ≤ 300) (hW : W32 xs) (hi' : nextP l pc xs.length = some ⟨10, a, b, c⟩) :
    Calls Tryd.prog 17 #[cv, .agg #[.int .i64 pc, .slice (some ad) xs.length cap, .int .i64 0]] w fun e w' => StPost w ((pc : Int) + 1, wx xs a (twoP 10 (gx xs b) (gx xs c)), 0) e w' := by
  obtain ⟨i0, hi, hz0, hz1, hz2⟩ := info_parts info21
  have hlen : (xs.map (Value.int .i32)).length = xs.length * 1 := by simp
  have hml : 0 + xs.length ≤ maxLen := by unfold maxLen; omega
  have hby : (0 + xs.length) * 4 ≤ 140737488355328 := by omega
  obtain ⟨hri, hpc⟩ := nextP_right hi'
  simp only [Int.toNat_natCast] at hri hpc
  have hx0 : 0 < xs.length := by have := (rightSt_iff.1 hr).1; omega
  obtain ⟨ha0, ha1, hb0, hb1, hc0, hc1⟩ := right_www (by simp) hri
  obtain ⟨a, rfl⟩ := Int.eq_ofNat_of_zero_le ha0
  obtain ⟨b, rfl⟩ := Int.eq_ofNat_of_zero_le hb0
  obtain ⟨c, rfl⟩ := Int.eq_ofNat_of_zero_le hc0
  obtain ⟨mb, mo, rfl, lm, hk⟩ := h.look hx0
  have Hk := Lib.hid hk
  have Hn := Lib.hid h
  have Hr := Lib.hid hr
  have Hri := Lib.hid hri
  have Hc := Lib.hid hc
  have Hi := Lib.hid hi'
  have pc0 : (pc : Int) ≤ 300 := by omega
  clear h hr hc hi' hri hk
  go_enter Tryd.func17, Tryd.ntmps17
  go_upto_region 1 with (fail)
  go_cut [5] (fun v5 wc => ∃ pb g cap', v5 = .pointer (some ⟨pb, 0, none⟩) ∧ Head w wc pb g cap' pc (.slice (some ⟨mb, mo, none⟩) xs.length cap) xs 0)
  case first =>
    refine wp_region_held_drew (S := fun w' => w'.cell? ⟨w.heap.size, 0, none⟩ = some (.int .i64 pc) ∧ w'.cell? ⟨w.heap.size, 1, none⟩ = some (.slice (some ⟨mb, mo, none⟩) xs.length cap) ∧ w'.cell? ⟨w.heap.size, 2, none⟩ = some (.int .i64 0)) (by kernel_rfl) (by refine ⟨?_, ?_, ?_⟩ <;> go_simp) (fun hHeld => ?_)
    refine hd_take (i := 0) (some 9) (v := ?v0) rfl rfl (by kernel_rfl) (by kernel_rfl) (by kernel_rfl) (fun _ _ _ h => h) (by rfl) ?h0 (by assumption) ?r0
    case h0 =>
      intro w hSw
      (try dsimp only at hSw)
      go_simp
      (try with_reducible rfl)
    try simp only [Act.put, List.setIfInBounds_toArray, List.set_cons_zero, List.set_cons_succ]
    refine hd_take (i := 1) (some 10) (v := ?v1) rfl rfl (by kernel_rfl) (by kernel_rfl) (by kernel_rfl) (fun _ _ _ h => h) (by rfl) ?h1 (by assumption) ?r1
    case h1 =>
      intro w hSw
      (try dsimp only at hSw)
      go_simp
      (try with_reducible rfl)
    try simp only [Act.put, List.setIfInBounds_toArray, List.set_cons_zero, List.set_cons_succ]
    refine hd_take (i := 3) (some 12) (v := ?v3) rfl rfl (by kernel_rfl) (by kernel_rfl) (by kernel_rfl) (fun _ _ _ h => h) (by rfl) ?h3 (by assumption) ?r3
    case h3 =>
      intro w hSw
      (try dsimp only at hSw)
      go_simp
      (try with_reducible rfl)
    try simp only [Act.put, List.setIfInBounds_toArray, List.set_cons_zero, List.set_cons_succ]
    refine hd_take (i := 4) (some 13) (v := ?v4) rfl rfl (by kernel_rfl) (by kernel_rfl) (by kernel_rfl) (fun _ _ _ h => h) (by rfl) ?h4 (by assumption) ?r4
    case h4 =>
      intro w hSw
      (try dsimp only at hSw)
      go_simp
      (try with_reducible rfl)
    try simp only [Act.put, List.setIfInBounds_toArray, List.set_cons_zero, List.set_cons_succ]
    refine hd_take (i := 6) (some 15) (v := ?v6) rfl rfl (by kernel_rfl) (by kernel_rfl) (by kernel_rfl) (fun _ _ _ h => h) (by rfl) ?h6 (by assumption) ?r6
    case h6 =>
      intro w hSw
      (try dsimp only at hSw)
      go_simp
      (try with_reducible rfl)
    try simp only [Act.put, List.setIfInBounds_toArray, List.set_cons_zero, List.set_cons_succ]
    refine hd_take (i := 7) (some 16) (v := ?v7) rfl rfl (by kernel_rfl) (by kernel_rfl) (by kernel_rfl) (fun _ _ _ h => h) (by rfl) ?h7 (by assumption) ?r7
    case h7 =>
      intro w hSw
      (try dsimp only at hSw)
      go_simp
      (try with_reducible rfl)
    try simp only [Act.put, List.setIfInBounds_toArray, List.set_cons_zero, List.set_cons_succ]
    refine wpAnyH_ready (rs := [2, 9]) (by kernel_rfl) (by simp) ?_
    refine AllReadyH.cons rfl (fun K hK => ?_) (AllReadyH.cons rfl (fun K hK => ?_) AllReadyH.nil)
    · go_simp
      refine hK.out _ _ (by refine ⟨?_, ?_, ?_⟩ <;> go_simp) (fun hH2 => ?_)
      clear hK K
      refine wpAnyH_ready (rs := [5, 9]) (by kernel_rfl) (by simp) ?_
      refine AllReadyH.cons rfl (fun K hK => ?_) (AllReadyH.cons rfl (fun K hK => ?_) AllReadyH.nil)
      · refine step_append_made _ (by rfl) _ _ _ (by rfl) (w.heap.size + 2) 21 i0 _ 1 4 Tryd.underlying23 hi hz0 hz1 hz2 rfl (by omega) ⟨w.heap.size + 2, 0, none⟩ 0 0 [] (by rfl) (by first | exact ownsRow_empty _ _ (by simp) (by omega) | exact ownsRow_empty2 _ _ _ (by simp) (by omega)) ⟨mb, mo, none⟩ xs.length cap (xs.map (Value.int .i32)) (by rfl) hlen (Hn.out.news' (by repeat (first | exact Below.refl _ _ | exact Nat.le_refl _ | apply Below.drew | (refine Below.alloc ?_ (by simp <;> omega) _)))) (one_i32 xs) hml hby (by simp <;> omega) ?_
        intro g cap' w1 hown hgrow
        refine hK.out _ _ (by refine ⟨?_, ?_, ?_⟩ <;> (rw [hgrow.cell_far _ (by simp <;> omega) (by simp <;> omega)]; go_simp)) (fun hH5 => ?_)
        clear hK K
        try simp only [Act.put, List.setIfInBounds_toArray, List.set_cons_zero, List.set_cons_succ]
        rw [Nat.zero_add, List.nil_append] at hown
        rw [Nat.zero_add]
        have hs1 := hgrow.size
        simp at hs1
        refine hd_take (i := 8) (some 17) (v := ?v8x1) rfl rfl (by kernel_rfl) (by kernel_rfl) (by kernel_rfl) (fun _ _ _ h => h) (by rfl) ?h8x1 (by assumption) ?r8x1
        case h8x1 =>
          intro w hSw
          (try dsimp only at hSw)
          go_simp
          (try with_reducible rfl)
        try simp only [Act.put, List.setIfInBounds_toArray, List.set_cons_zero, List.set_cons_succ]
        refine wpAnyH_ready (rs := [9]) (by kernel_rfl) (by simp) ?_
        refine AllReadyH.cons rfl (fun K hK => ?_) AllReadyH.nil
        go_simp
        refine hK.out _ _ (by refine ⟨?_, ?_, ?_⟩ <;> (rw [World.cell?_alloc_past _ _ _ (by omega)]; first | exact hH5.1 | exact hH5.2.1 | exact hH5.2.2)) (fun hH9 => ?_)
        clear hK K
        refine wpAnyH_ready (rs := [10]) (by kernel_rfl) (by simp) ?_
        refine AllReadyH.cons rfl (fun K hK => ?_) AllReadyH.nil
        go_simp
        refine hK.out _ _ (by refine ⟨?_, ?_, ?_⟩ <;> (rw [World.cell?_alloc_past _ _ _ (by omega)]; first | exact hH5.1 | exact hH5.2.1 | exact hH5.2.2)) (fun hH10 => ?_)
        clear hK K
        refine wpAnyH_done (by kernel_rfl) ?_ _
        go_wp2_with fail
        go_meet
        case rel => exact ⟨_, g, cap', rfl, head_new w _ w1 g cap' pc (.slice (some ⟨mb, mo, none⟩) xs.length cap) xs 0 hown hgrow (by repeat (first | exact Below.refl _ _ | exact Nat.le_refl _ | apply Below.drew | (refine Below.alloc ?_ (by simp <;> omega) _))) (by simp <;> omega) (by simp <;> omega) (fun i => by go_simp) (fun i => by go_simp) (fun i => by go_simp)⟩
      · go_simp
        refine hK.out _ _ (by refine ⟨?_, ?_, ?_⟩ <;> go_simp) (fun hH9 => ?_)
        clear hK K
        refine wpAnyH_ready (rs := [5]) (by kernel_rfl) (by simp) ?_
        refine AllReadyH.cons rfl (fun K hK => ?_) AllReadyH.nil
        refine step_append_made _ (by rfl) _ _ _ (by rfl) (w.heap.size + 2) 21 i0 _ 1 4 Tryd.underlying23 hi hz0 hz1 hz2 rfl (by omega) ⟨w.heap.size + 2, 0, none⟩ 0 0 [] (by rfl) (by first | exact ownsRow_empty _ _ (by simp) (by omega) | exact ownsRow_empty2 _ _ _ (by simp) (by omega)) ⟨mb, mo, none⟩ xs.length cap (xs.map (Value.int .i32)) (by rfl) hlen (Hn.out.news' (by repeat (first | exact Below.refl _ _ | exact Nat.le_refl _ | apply Below.drew | (refine Below.alloc ?_ (by simp <;> omega) _)))) (one_i32 xs) hml hby (by simp <;> omega) ?_
        intro g cap' w1 hown hgrow
        refine hK.out _ _ (by refine ⟨?_, ?_, ?_⟩ <;> (rw [hgrow.cell_far _ (by simp <;> omega) (by simp <;> omega)]; go_simp)) (fun hH5 => ?_)
        clear hK K
        try simp only [Act.put, List.setIfInBounds_toArray, List.set_cons_zero, List.set_cons_succ]
        rw [Nat.zero_add, List.nil_append] at hown
        rw [Nat.zero_add]
        have hs1 := hgrow.size
        simp at hs1
        have o0 : ∀ i, w1.cell? ⟨w.heap.size + 3, i, none⟩ = #[Value.int .i64 0, .slice none 0 0, .int .i64 0][i]? := fun i => (hgrow.cell_far _ (by simp <;> omega) (by simp <;> omega)).trans (by go_simp)
        have of : ∀ i, w1.frozen? ⟨w.heap.size + 3, i, none⟩ = false := fun i => (hgrow.frozen_far _ (by simp <;> omega) (by simp <;> omega)).trans (by go_simp)
        refine hd_take (i := 8) (some 17) (v := ?v8x2) rfl rfl (by kernel_rfl) (by kernel_rfl) (by kernel_rfl) (fun _ _ _ h => h) (by rfl) ?h8x2 (by assumption) ?r8x2
        case h8x2 =>
          intro w hSw
          (try dsimp only at hSw)
          go_simp
          (try with_reducible rfl)
        try simp only [Act.put, List.setIfInBounds_toArray, List.set_cons_zero, List.set_cons_succ]
        refine wpAnyH_ready (rs := [10]) (by kernel_rfl) (by simp) ?_
        refine AllReadyH.cons rfl (fun K hK => ?_) AllReadyH.nil
        go_simp
        refine hK.out _ _ (by refine ⟨?_, ?_, ?_⟩ <;> (rw [World.cell?_setCell_far _ _ _ _ (by simp <;> omega), World.cell?_setCell_far _ _ _ _ (by simp <;> omega), World.cell?_setCell_far _ _ _ _ (by simp <;> omega)]; first | exact hH5.1 | exact hH5.2.1 | exact hH5.2.2)) (fun hH10 => ?_)
        clear hK K
        refine wpAnyH_done (by kernel_rfl) ?_ _
        go_wp2_with fail
        go_meet
        case rel => exact ⟨_, g, cap', rfl, head_old w _ w1 _ _ g cap' pc (.slice (some ⟨mb, mo, none⟩) xs.length cap) xs 0 hown hgrow (by repeat (first | exact Below.refl _ _ | exact Nat.le_refl _ | apply Below.drew | (refine Below.alloc ?_ (by simp <;> omega) _))) (by simp <;> omega) (by simp <;> omega) (by simp <;> omega) (by simp <;> omega) (by simp <;> omega) (fun i => by go_simp) (fun i => by go_simp) (fun i => by go_simp) (by first | exact heap_at1 _ _ _ (by simp) | exact heap_at2 _ _ _ _ (by simp))⟩
    · go_simp
      refine hK.out _ _ (by refine ⟨?_, ?_, ?_⟩ <;> go_simp) (fun hH9 => ?_)
      clear hK K
      refine wpAnyH_ready (rs := [2]) (by kernel_rfl) (by simp) ?_
      refine AllReadyH.cons rfl (fun K hK => ?_) AllReadyH.nil
      go_simp
      refine hK.out _ _ (by refine ⟨?_, ?_, ?_⟩ <;> go_simp) (fun hH2 => ?_)
      clear hK K
      refine wpAnyH_ready (rs := [5]) (by kernel_rfl) (by simp) ?_
      refine AllReadyH.cons rfl (fun K hK => ?_) AllReadyH.nil
      refine step_append_made _ (by rfl) _ _ _ (by rfl) (w.heap.size + 2) 21 i0 _ 1 4 Tryd.underlying23 hi hz0 hz1 hz2 rfl (by omega) ⟨w.heap.size + 3, 0, none⟩ 0 0 [] (by rfl) (by first | exact ownsRow_empty _ _ (by simp) (by omega) | exact ownsRow_empty2 _ _ _ (by simp) (by omega)) ⟨mb, mo, none⟩ xs.length cap (xs.map (Value.int .i32)) (by rfl) hlen (Hn.out.news' (by repeat (first | exact Below.refl _ _ | exact Nat.le_refl _ | apply Below.drew | (refine Below.alloc ?_ (by simp <;> omega) _)))) (one_i32 xs) hml hby (by simp <;> omega) ?_
      intro g cap' w1 hown hgrow
      refine hK.out _ _ (by refine ⟨?_, ?_, ?_⟩ <;> (rw [hgrow.cell_far _ (by simp <;> omega) (by simp <;> omega)]; go_simp)) (fun hH5 => ?_)
      clear hK K
      try simp only [Act.put, List.setIfInBounds_toArray, List.set_cons_zero, List.set_cons_succ]
      rw [Nat.zero_add, List.nil_append] at hown
      rw [Nat.zero_add]
      have hs1 := hgrow.size
      simp at hs1
      have o0 : ∀ i, w1.cell? ⟨w.heap.size + 2, i, none⟩ = #[Value.int .i64 0, .slice none 0 0, .int .i64 0][i]? := fun i => (hgrow.cell_far _ (by simp <;> omega) (by simp <;> omega)).trans (by go_simp)
      have of : ∀ i, w1.frozen? ⟨w.heap.size + 2, i, none⟩ = false := fun i => (hgrow.frozen_far _ (by simp <;> omega) (by simp <;> omega)).trans (by go_simp)
      refine hd_take (i := 8) (some 17) (v := ?v8x3) rfl rfl (by kernel_rfl) (by kernel_rfl) (by kernel_rfl) (fun _ _ _ h => h) (by rfl) ?h8x3 (by assumption) ?r8x3
      case h8x3 =>
        intro w hSw
        (try dsimp only at hSw)
        go_simp
        (try with_reducible rfl)
      try simp only [Act.put, List.setIfInBounds_toArray, List.set_cons_zero, List.set_cons_succ]
      refine wpAnyH_ready (rs := [10]) (by kernel_rfl) (by simp) ?_
      refine AllReadyH.cons rfl (fun K hK => ?_) AllReadyH.nil
      go_simp
      refine hK.out _ _ (by refine ⟨?_, ?_, ?_⟩ <;> (rw [World.cell?_setCell_far _ _ _ _ (by simp <;> omega), World.cell?_setCell_far _ _ _ _ (by simp <;> omega), World.cell?_setCell_far _ _ _ _ (by simp <;> omega)]; first | exact hH5.1 | exact hH5.2.1 | exact hH5.2.2)) (fun hH10 => ?_)
      clear hK K
      refine wpAnyH_done (by kernel_rfl) ?_ _
      go_wp2_with fail
      go_meet
      case rel => exact ⟨_, g, cap', rfl, head_old w _ w1 _ _ g cap' pc (.slice (some ⟨mb, mo, none⟩) xs.length cap) xs 0 hown hgrow (by repeat (first | exact Below.refl _ _ | exact Nat.le_refl _ | apply Below.drew | (refine Below.alloc ?_ (by simp <;> omega) _))) (by simp <;> omega) (by simp <;> omega) (by simp <;> omega) (by simp <;> omega) (by simp <;> omega) (fun i => by go_simp) (fun i => by go_simp) (fun i => by go_simp) (by first | exact heap_at1 _ _ _ (by simp) | exact heap_at2 _ _ _ _ (by simp))⟩
  case rest =>
    obtain ⟨pb, g, cap', rfl, hH⟩ := hcut
    have HH := Lib.hid hH
    have bx := hH.box
    clear hH
    go_wp2_with fail
    refine (rright_any pc 0 _ _ _ _).mono ?_
    rintro e w1 ⟨rfl, hb1⟩
    have hs0 := HH.out.below.size
    have hpb := HH.out.lpb
    have hlp := HH.out.lp
    have bx1 : ∀ i, w1.cell? ⟨w.heap.size, i, none⟩ = #[Value.int .i64 pc, .slice (some ⟨mb, mo, none⟩) xs.length cap, .int .i64 0][i]? := fun i => (hb1.cell (p := ⟨w.heap.size, i, none⟩) (by show w.heap.size < _; omega)).trans (bx i)
    have HB1 := Lib.hid hb1
    clear bx hb1
    rw [Hr.out]
    go_wp2_with fail
    refine (rnext_yes pc _ _ _ l cv _ _ Hr.out ((Hc.out.below HH.out.below (Nat.le_refl _)).below HB1.out (Nat.le_refl _)) hll Hi.out).mono ?_
    rintro e w2 ⟨rfl, hb2⟩
    have hs1 := HB1.out.size
    have hs2 := hb2.size
    have HM2 : Hid (MSt w2 pb g cap' pc xs 0) := Lib.hid ((HH.out.st.below hx0 HB1.out).below hx0 hb2)
    have HB2 : Hid (Below w.heap.size w w2) := Lib.hid ((HH.out.below.trans (HB1.out.mono (by omega))).trans (hb2.mono (by omega)))
    have bx2 : ∀ i, w2.cell? ⟨w.heap.size, i, none⟩ = #[Value.int .i64 pc, .slice (some ⟨mb, mo, none⟩) xs.length cap, .int .i64 0][i]? := fun i => (hb2.cell (p := ⟨w.heap.size, i, none⟩) (by show w.heap.size < _; omega)).trans (bx1 i)
    have rs2 : ∀ i, w2.cell? ⟨w.heap.size + 1, i, none⟩ = #[Value.int .i64 0, .slice none 0 0, .int .i64 0][i]? := fun i => (hb2.cell (p := ⟨w.heap.size + 1, i, none⟩) (by show w.heap.size + 1 < _; omega)).trans ((HB1.out.cell (p := ⟨w.heap.size + 1, i, none⟩) (by show w.heap.size + 1 < _; omega)).trans (HH.out.res i))
    have fr2 : ∀ i, w2.frozen? ⟨w.heap.size + 1, i, none⟩ = false := fun i => (hb2.frozen (p := ⟨w.heap.size + 1, i, none⟩) (by show w.heap.size + 1 < _; omega)).trans ((HB1.out.frozen (p := ⟨w.heap.size + 1, i, none⟩) (by show w.heap.size + 1 < _; omega)).trans (HH.out.fres i))
    have mem2 : Hid (∀ k x, xs[k]? = some x → w2.cell? ⟨mb, mo + k, none⟩ = some (.int .i32 x)) := Lib.hid fun k x hx => (HB2.out.cell (p := ⟨mb, mo + k, none⟩) lm).trans (Hk.out k x hx)
    have lr2 : w.heap.size + 1 < w2.heap.size := by omega
    have lb2 : w.heap.size < w2.heap.size := by omega
    have lp2 : pb < w2.heap.size := by omega
    have lg2 : g < w2.heap.size := by have := HH.out.lgb; omega
    have lm2 : mb < w2.heap.size := by omega
    have hlw := lm
    have hpg := HH.out.st.ne
    have hlg := HH.out.lg
    have hlp' := HH.out.lp
    have q0 := HM2.out.st.c0
    have q1 := HM2.out.st.c1
    have q2 := HM2.out.st.c2
    have zp := HM2.out.fp
    have zg := HM2.out.fm
    clear bx1 hb2 hs0 hs1 hs2 hpb hlp
    go_upto_region 12 with (fail)
    obtain ⟨W, hW⟩ : ∃ W, W = (w2.setCell ⟨pb, 0, none⟩ (.int .i64 ((pc : Int) + 1))).alloc (.cells #[.int .i64 10, .int .i64 a, .int .i64 b, .int .i64 c] 58) := ⟨_, rfl⟩
    rw [← hW]
    obtain ⟨HM, HB, bxW, rsW, frW, memW, inW, szW⟩ := rdy HM2.out HB2.out hx0 bx2 rs2 fr2 mem2.out lm HH.out.lp lp2 lg2 hW
    replace HM := Lib.hid HM
    replace HB := Lib.hid HB
    replace memW := Lib.hid memW
    clear hW bx2 rs2 fr2 mem2 HM2 HB2 q0 q1 q2 zp zg
    have q0 := HM.out.st.c0
    have q1 := HM.out.st.c1
    have q2 := HM.out.st.c2
    have zp := HM.out.fp
    have zg := HM.out.fm
    generalize w2.heap.size = ib at *
    have lgW : g < W.heap.size := by omega
    have hbp : ¬ w.heap.size = pb := by omega
    have hbg : ¬ w.heap.size = g := by omega
    have hrp : ¬ w.heap.size + 1 = pb := by omega
    have hrg : ¬ w.heap.size + 1 = g := by omega
    have hig : ¬ ib = g := by omega
    have hip : ¬ ib = pb := by omega
    have hmp : ¬ mb = pb := by omega
    have hmg : ¬ mb = g := by omega
    have rdb := memW.out b _ (gx_at (show b < xs.length by omega))
    have lb : (b : Int) < (xs.length : Int) := by omega
    have rdc := memW.out c _ (gx_at (show c < xs.length by omega))
    have lc : (c : Int) < (xs.length : Int) := by omega
    obtain ⟨xa, ga⟩ : ∃ xa, W.cell? ⟨g, a, none⟩ = some xa := ⟨_, HM.out.cells a _ (gx_at (show a < xs.length by omega))⟩
    have lda : (a : Int) < (xs.length : Int) := by omega
    have B_b : -2147483648 ≤ gx xs b ∧ gx xs b ≤ 2147483647 := hW.gx (by omega)
    have B_c : -2147483648 ≤ gx xs c ∧ gx xs c ≤ 2147483647 := hW.gx (by omega)
    go_wp2_with fail
    go_still_tail 19, (by kernel_rfl)
    still_call ((rtwo_any 10 _ _ _ (by decide) (by decide) B_b.1 B_b.2 B_c.1 B_c.2).mono (by rintro e w' ⟨rfl, rfl⟩; exact ⟨rfl, rfl⟩))
    repeat still_step
    try refine wpStill_nil ?_
    go_wp2
    refine bodyPost_ret (v := .agg #[.int .i64 ((pc : Int) + 1), .slice (some ⟨g, 0, none⟩) xs.length cap', .int .i64 (0)]) (by simp [results, Tryd.results17, go_sem, *]) rfl ?_
    refine StPost.drew ?_
    exact fin (HM.out.setMem (a := a) (by omega) (twoP 10 (gx xs b) (gx xs c))) (HB.out.setCell (by show w.heap.size ≤ g; omega) _) HH.out.lk hx0 (wx_len _ _ _) hlg
end Go.Proofs.YteecpkkgjioplaaDoor

/- baizeref15.Step: rstep_11 -/
namespace Go.Proofs.YteecpkkgjioplaaDoor
open Go.RowKit Go

set_option linter.unusedSimpArgs false in
set_option linter.unusedVariables false in
set_option maxRecDepth 100000 in
set_option maxHeartbeats 4000000 in
theorem rstep_11 (pc : Nat) (ad : Addr) (cap : Nat) (xs : List Int) (cv : Value) (l : List Ins) (a b c : Int) (w : World) (h : I32s w (.slice (some ad) xs.length cap) xs) (hl : xs.length ≤ 300) (hr : rightSt pc xs.length 0 = true) (hc : InsS w cv l) (hll : l.length ≤ 300) (hW : W32 xs) (hi' : nextP l pc xs.length = some ⟨11, a, b, c⟩) :
    Calls Tryd.prog 17 #[cv, .agg #[.int .i64 pc, .slice (some ad) xs.length cap, .int .i64 0]] w fun e w' => StPost w ((pc : Int) + 1, wx xs a (twoP 11 (gx xs b) (gx xs c)), 0) e w' := by
  obtain ⟨i0, hi, hz0, hz1, hz2⟩ := info_parts info21
  have hlen : (xs.map (Value.int .i32)).length = xs.length * 1 := by simp
  have hml : 0 + xs.length ≤ maxLen := by unfold maxLen; omega
  have hby : (0 + xs.length) * 4 ≤ 140737488355328 := by omega
  obtain ⟨hri, hpc⟩ := nextP_right hi'
  simp only [Int.toNat_natCast] at hri hpc
  have hx0 : 0 < xs.length := by have := (rightSt_iff.1 hr).1; omega
  obtain ⟨ha0, ha1, hb0, hb1, hc0, hc1⟩ := right_www (by simp) hri
  obtain ⟨a, rfl⟩ := Int.eq_ofNat_of_zero_le ha0
  obtain ⟨b, rfl⟩ := Int.eq_ofNat_of_zero_le hb0
  obtain ⟨c, rfl⟩ := Int.eq_ofNat_of_zero_le hc0
  obtain ⟨mb, mo, rfl, lm, hk⟩ := h.look hx0
  have Hk := Lib.hid hk
  have Hn := Lib.hid h
  have Hr := Lib.hid hr
  have Hri := Lib.hid hri
  have Hc := Lib.hid hc
  have Hi := Lib.hid hi'
  have pc0 : (pc : Int) ≤ 300 := by omega
  clear h hr hc hi' hri hk
  go_enter Tryd.func17, Tryd.ntmps17
  go_upto_region 1 with (fail)
  go_cut [5] (fun v5 wc => ∃ pb g cap', v5 = .pointer (some ⟨pb, 0, none⟩) ∧ Head w wc pb g cap' pc (.slice (some ⟨mb, mo, none⟩) xs.length cap) xs 0)
  case first =>
    refine wp_region_held_drew (S := fun w' => w'.cell? ⟨w.heap.size, 0, none⟩ = some (.int .i64 pc) ∧ w'.cell? ⟨w.heap.size, 1, none⟩ = some (.slice (some ⟨mb, mo, none⟩) xs.length cap) ∧ w'.cell? ⟨w.heap.size, 2, none⟩ = some (.int .i64 0)) (by kernel_rfl) (by refine ⟨?_, ?_, ?_⟩ <;> go_simp) (fun hHeld => ?_)
    refine hd_take (i := 0) (some 9) (v := ?v0) rfl rfl (by kernel_rfl) (by kernel_rfl) (by kernel_rfl) (fun _ _ _ h => h) (by rfl) ?h0 (by assumption) ?r0
    case h0 =>
      intro w hSw
      (try dsimp only at hSw)
      go_simp
      (try with_reducible rfl)
    try simp only [Act.put, List.setIfInBounds_toArray, List.set_cons_zero, List.set_cons_succ]
    refine hd_take (i := 1) (some 10) (v := ?v1) rfl rfl (by kernel_rfl) (by kernel_rfl) (by kernel_rfl) (fun _ _ _ h => h) (by rfl) ?h1 (by assumption) ?r1
    case h1 =>
      intro w hSw
      (try dsimp only at hSw)
      go_simp
      (try with_reducible rfl)
    try simp only [Act.put, List.setIfInBounds_toArray, List.set_cons_zero, List.set_cons_succ]
    refine hd_take (i := 3) (some 12) (v := ?v3) rfl rfl (by kernel_rfl) (by kernel_rfl) (by kernel_rfl) (fun _ _ _ h => h) (by rfl) ?h3 (by assumption) ?r3
    case h3 =>
      intro w hSw
      (try dsimp only at hSw)
      go_simp
      (try with_reducible rfl)
    try simp only [Act.put, List.setIfInBounds_toArray, List.set_cons_zero, List.set_cons_succ]
    refine hd_take (i := 4) (some 13) (v := ?v4) rfl rfl (by kernel_rfl) (by kernel_rfl) (by kernel_rfl) (fun _ _ _ h => h) (by rfl) ?h4 (by assumption) ?r4
    case h4 =>
      intro w hSw
      (try dsimp only at hSw)
      go_simp
      (try with_reducible rfl)
    try simp only [Act.put, List.setIfInBounds_toArray, List.set_cons_zero, List.set_cons_succ]
    refine hd_take (i := 6) (some 15) (v := ?v6) rfl rfl (by kernel_rfl) (by kernel_rfl) (by kernel_rfl) (fun _ _ _ h => h) (by rfl) ?h6 (by assumption) ?r6
    case h6 =>
      intro w hSw
      (try dsimp only at hSw)
      go_simp
      (try with_reducible rfl)
    try simp only [Act.put, List.setIfInBounds_toArray, List.set_cons_zero, List.set_cons_succ]
    refine hd_take (i := 7) (some 16) (v := ?v7) rfl rfl (by kernel_rfl) (by kernel_rfl) (by kernel_rfl) (fun _ _ _ h => h) (by rfl) ?h7 (by assumption) ?r7
    case h7 =>
      intro w hSw
      (try dsimp only at hSw)
      go_simp
      (try with_reducible rfl)
    try simp only [Act.put, List.setIfInBounds_toArray, List.set_cons_zero, List.set_cons_succ]
    refine wpAnyH_ready (rs := [2, 9]) (by kernel_rfl) (by simp) ?_
    refine AllReadyH.cons rfl (fun K hK => ?_) (AllReadyH.cons rfl (fun K hK => ?_) AllReadyH.nil)
    · go_simp
      refine hK.out _ _ (by refine ⟨?_, ?_, ?_⟩ <;> go_simp) (fun hH2 => ?_)
      clear hK K
      refine wpAnyH_ready (rs := [5, 9]) (by kernel_rfl) (by simp) ?_
      refine AllReadyH.cons rfl (fun K hK => ?_) (AllReadyH.cons rfl (fun K hK => ?_) AllReadyH.nil)
      · refine step_append_made _ (by rfl) _ _ _ (by rfl) (w.heap.size + 2) 21 i0 _ 1 4 Tryd.underlying23 hi hz0 hz1 hz2 rfl (by omega) ⟨w.heap.size + 2, 0, none⟩ 0 0 [] (by rfl) (by first | exact ownsRow_empty _ _ (by simp) (by omega) | exact ownsRow_empty2 _ _ _ (by simp) (by omega)) ⟨mb, mo, none⟩ xs.length cap (xs.map (Value.int .i32)) (by rfl) hlen (Hn.out.news' (by repeat (first | exact Below.refl _ _ | exact Nat.le_refl _ | apply Below.drew | (refine Below.alloc ?_ (by simp <;> omega) _)))) (one_i32 xs) hml hby (by simp <;> omega) ?_
        intro g cap' w1 hown hgrow
        refine hK.out _ _ (by refine ⟨?_, ?_, ?_⟩ <;> (rw [hgrow.cell_far _ (by simp <;> omega) (by simp <;> omega)]; go_simp)) (fun hH5 => ?_)
        clear hK K
        try simp only [Act.put, List.setIfInBounds_toArray, List.set_cons_zero, List.set_cons_succ]
        rw [Nat.zero_add, List.nil_append] at hown
        rw [Nat.zero_add]
        have hs1 := hgrow.size
        simp at hs1
        refine hd_take (i := 8) (some 17) (v := ?v8x1) rfl rfl (by kernel_rfl) (by kernel_rfl) (by kernel_rfl) (fun _ _ _ h => h) (by rfl) ?h8x1 (by assumption) ?r8x1
        case h8x1 =>
          intro w hSw
          (try dsimp only at hSw)
          go_simp
          (try with_reducible rfl)
        try simp only [Act.put, List.setIfInBounds_toArray, List.set_cons_zero, List.set_cons_succ]
        refine wpAnyH_ready (rs := [9]) (by kernel_rfl) (by simp) ?_
        refine AllReadyH.cons rfl (fun K hK => ?_) AllReadyH.nil
        go_simp
        refine hK.out _ _ (by refine ⟨?_, ?_, ?_⟩ <;> (rw [World.cell?_alloc_past _ _ _ (by omega)]; first | exact hH5.1 | exact hH5.2.1 | exact hH5.2.2)) (fun hH9 => ?_)
        clear hK K
        refine wpAnyH_ready (rs := [10]) (by kernel_rfl) (by simp) ?_
        refine AllReadyH.cons rfl (fun K hK => ?_) AllReadyH.nil
        go_simp
        refine hK.out _ _ (by refine ⟨?_, ?_, ?_⟩ <;> (rw [World.cell?_alloc_past _ _ _ (by omega)]; first | exact hH5.1 | exact hH5.2.1 | exact hH5.2.2)) (fun hH10 => ?_)
        clear hK K
        refine wpAnyH_done (by kernel_rfl) ?_ _
        go_wp2_with fail
        go_meet
        case rel => exact ⟨_, g, cap', rfl, head_new w _ w1 g cap' pc (.slice (some ⟨mb, mo, none⟩) xs.length cap) xs 0 hown hgrow (by repeat (first | exact Below.refl _ _ | exact Nat.le_refl _ | apply Below.drew | (refine Below.alloc ?_ (by simp <;> omega) _))) (by simp <;> omega) (by simp <;> omega) (fun i => by go_simp) (fun i => by go_simp) (fun i => by go_simp)⟩
      · go_simp
        refine hK.out _ _ (by refine ⟨?_, ?_, ?_⟩ <;> go_simp) (fun hH9 => ?_)
        clear hK K
        refine wpAnyH_ready (rs := [5]) (by kernel_rfl) (by simp) ?_
        refine AllReadyH.cons rfl (fun K hK => ?_) AllReadyH.nil
        refine step_append_made _ (by rfl) _ _ _ (by rfl) (w.heap.size + 2) 21 i0 _ 1 4 Tryd.underlying23 hi hz0 hz1 hz2 rfl (by omega) ⟨w.heap.size + 2, 0, none⟩ 0 0 [] (by rfl) (by first | exact ownsRow_empty _ _ (by simp) (by omega) | exact ownsRow_empty2 _ _ _ (by simp) (by omega)) ⟨mb, mo, none⟩ xs.length cap (xs.map (Value.int .i32)) (by rfl) hlen (Hn.out.news' (by repeat (first | exact Below.refl _ _ | exact Nat.le_refl _ | apply Below.drew | (refine Below.alloc ?_ (by simp <;> omega) _)))) (one_i32 xs) hml hby (by simp <;> omega) ?_
        intro g cap' w1 hown hgrow
        refine hK.out _ _ (by refine ⟨?_, ?_, ?_⟩ <;> (rw [hgrow.cell_far _ (by simp <;> omega) (by simp <;> omega)]; go_simp)) (fun hH5 => ?_)
        clear hK K
        try simp only [Act.put, List.setIfInBounds_toArray, List.set_cons_zero, List.set_cons_succ]
        rw [Nat.zero_add, List.nil_append] at hown
        rw [Nat.zero_add]
        have hs1 := hgrow.size
        simp at hs1
        have o0 : ∀ i, w1.cell? ⟨w.heap.size + 3, i, none⟩ = #[Value.int .i64 0, .slice none 0 0, .int .i64 0][i]? := fun i => (hgrow.cell_far _ (by simp <;> omega) (by simp <;> omega)).trans (by go_simp)
        have of : ∀ i, w1.frozen? ⟨w.heap.size + 3, i, none⟩ = false := fun i => (hgrow.frozen_far _ (by simp <;> omega) (by simp <;> omega)).trans (by go_simp)
        refine hd_take (i := 8) (some 17) (v := ?v8x2) rfl rfl (by kernel_rfl) (by kernel_rfl) (by kernel_rfl) (fun _ _ _ h => h) (by rfl) ?h8x2 (by assumption) ?r8x2
        case h8x2 =>
          intro w hSw
          (try dsimp only at hSw)
          go_simp
          (try with_reducible rfl)
        try simp only [Act.put, List.setIfInBounds_toArray, List.set_cons_zero, List.set_cons_succ]
        refine wpAnyH_ready (rs := [10]) (by kernel_rfl) (by simp) ?_
        refine AllReadyH.cons rfl (fun K hK => ?_) AllReadyH.nil
        go_simp
        refine hK.out _ _ (by refine ⟨?_, ?_, ?_⟩ <;> (rw [World.cell?_setCell_far _ _ _ _ (by simp <;> omega), World.cell?_setCell_far _ _ _ _ (by simp <;> omega), World.cell?_setCell_far _ _ _ _ (by simp <;> omega)]; first | exact hH5.1 | exact hH5.2.1 | exact hH5.2.2)) (fun hH10 => ?_)
        clear hK K
        refine wpAnyH_done (by kernel_rfl) ?_ _
        go_wp2_with fail
        go_meet
        case rel => exact ⟨_, g, cap', rfl, head_old w _ w1 _ _ g cap' pc (.slice (some ⟨mb, mo, none⟩) xs.length cap) xs 0 hown hgrow (by repeat (first | exact Below.refl _ _ | exact Nat.le_refl _ | apply Below.drew | (refine Below.alloc ?_ (by simp <;> omega) _))) (by simp <;> omega) (by simp <;> omega) (by simp <;> omega) (by simp <;> omega) (by simp <;> omega) (fun i => by go_simp) (fun i => by go_simp) (fun i => by go_simp) (by first | exact heap_at1 _ _ _ (by simp) | exact heap_at2 _ _ _ _ (by simp))⟩
    · go_simp
      refine hK.out _ _ (by refine ⟨?_, ?_, ?_⟩ <;> go_simp) (fun hH9 => ?_)
      clear hK K
      refine wpAnyH_ready (rs := [2]) (by kernel_rfl) (by simp) ?_
      refine AllReadyH.cons rfl (fun K hK => ?_) AllReadyH.nil
      go_simp
      refine hK.out _ _ (by refine ⟨?_, ?_, ?_⟩ <;> go_simp) (fun hH2 => ?_)
      clear hK K
      refine wpAnyH_ready (rs := [5]) (by kernel_rfl) (by simp) ?_
      refine AllReadyH.cons rfl (fun K hK => ?_) AllReadyH.nil
      refine step_append_made _ (by rfl) _ _ _ (by rfl) (w.heap.size + 2) 21 i0 _ 1 4 Tryd.underlying23 hi hz0 hz1 hz2 rfl (by omega) ⟨w.heap.size + 3, 0, none⟩ 0 0 [] (by rfl) (by first | exact ownsRow_empty _ _ (by simp) (by omega) | exact ownsRow_empty2 _ _ _ (by simp) (by omega)) ⟨mb, mo, none⟩ xs.length cap (xs.map (Value.int .i32)) (by rfl) hlen (Hn.out.news' (by repeat (first | exact Below.refl _ _ | exact Nat.le_refl _ | apply Below.drew | (refine Below.alloc ?_ (by simp <;> omega) _)))) (one_i32 xs) hml hby (by simp <;> omega) ?_
      intro g cap' w1 hown hgrow
      refine hK.out _ _ (by refine ⟨?_, ?_, ?_⟩ <;> (rw [hgrow.cell_far _ (by simp <;> omega) (by simp <;> omega)]; go_simp)) (fun hH5 => ?_)
      clear hK K
      try simp only [Act.put, List.setIfInBounds_toArray, List.set_cons_zero, List.set_cons_succ]
      rw [Nat.zero_add, List.nil_append] at hown
      rw [Nat.zero_add]
      have hs1 := hgrow.size
      simp at hs1
      have o0 : ∀ i, w1.cell? ⟨w.heap.size + 2, i, none⟩ = #[Value.int .i64 0, .slice none 0 0, .int .i64 0][i]? := fun i => (hgrow.cell_far _ (by simp <;> omega) (by simp <;> omega)).trans (by go_simp)
      have of : ∀ i, w1.frozen? ⟨w.heap.size + 2, i, none⟩ = false := fun i => (hgrow.frozen_far _ (by simp <;> omega) (by simp <;> omega)).trans (by go_simp)
      refine hd_take (i := 8) (some 17) (v := ?v8x3) rfl rfl (by kernel_rfl) (by kernel_rfl) (by kernel_rfl) (fun _ _ _ h => h) (by rfl) ?h8x3 (by assumption) ?r8x3
      case h8x3 =>
        intro w hSw
        (try dsimp only at hSw)
        go_simp
        (try with_reducible rfl)
      try simp only [Act.put, List.setIfInBounds_toArray, List.set_cons_zero, List.set_cons_succ]
      refine wpAnyH_ready (rs := [10]) (by kernel_rfl) (by simp) ?_
      refine AllReadyH.cons rfl (fun K hK => ?_) AllReadyH.nil
      go_simp
      refine hK.out _ _ (by refine ⟨?_, ?_, ?_⟩ <;> (rw [World.cell?_setCell_far _ _ _ _ (by simp <;> omega), World.cell?_setCell_far _ _ _ _ (by simp <;> omega), World.cell?_setCell_far _ _ _ _ (by simp <;> omega)]; first | exact hH5.1 | exact hH5.2.1 | exact hH5.2.2)) (fun hH10 => ?_)
      clear hK K
      refine wpAnyH_done (by kernel_rfl) ?_ _
      go_wp2_with fail
      go_meet
      case rel => exact ⟨_, g, cap', rfl, head_old w _ w1 _ _ g cap' pc (.slice (some ⟨mb, mo, none⟩) xs.length cap) xs 0 hown hgrow (by repeat (first | exact Below.refl _ _ | exact Nat.le_refl _ | apply Below.drew | (refine Below.alloc ?_ (by simp <;> omega) _))) (by simp <;> omega) (by simp <;> omega) (by simp <;> omega) (by simp <;> omega) (by simp <;> omega) (fun i => by go_simp) (fun i => by go_simp) (fun i => by go_simp) (by first | exact heap_at1 _ _ _ (by simp) | exact heap_at2 _ _ _ _ (by simp))⟩
  case rest =>
    obtain ⟨pb, g, cap', rfl, hH⟩ := hcut
    have HH := Lib.hid hH
    have bx := hH.box
    clear hH
    go_wp2_with fail
    refine (rright_any pc 0 _ _ _ _).mono ?_
    rintro e w1 ⟨rfl, hb1⟩
    have hs0 := HH.out.below.size
    have hpb := HH.out.lpb
    have hlp := HH.out.lp
    have bx1 : ∀ i, w1.cell? ⟨w.heap.size, i, none⟩ = #[Value.int .i64 pc, .slice (some ⟨mb, mo, none⟩) xs.length cap, .int .i64 0][i]? := fun i => (hb1.cell (p := ⟨w.heap.size, i, none⟩) (by show w.heap.size < _; omega)).trans (bx i)
    have HB1 := Lib.hid hb1
    clear bx hb1
    rw [Hr.out]
    go_wp2_with fail
    refine (rnext_yes pc _ _ _ l cv _ _ Hr.out ((Hc.out.below HH.out.below (Nat.le_refl _)).below HB1.out (Nat.le_refl _)) hll Hi.out).mono ?_
    rintro e w2 ⟨rfl, hb2⟩
    have hs1 := HB1.out.size
    have hs2 := hb2.size
    have HM2 : Hid (MSt w2 pb g cap' pc xs 0) := Lib.hid ((HH.out.st.below hx0 HB1.out).below hx0 hb2)
    have HB2 : Hid (Below w.heap.size w w2) := Lib.hid ((HH.out.below.trans (HB1.out.mono (by omega))).trans (hb2.mono (by omega)))
    have bx2 : ∀ i, w2.cell? ⟨w.heap.size, i, none⟩ = #[Value.int .i64 pc, .slice (some ⟨mb, mo, none⟩) xs.length cap, .int .i64 0][i]? := fun i => (hb2.cell (p := ⟨w.heap.size, i, none⟩) (by show w.heap.size < _; omega)).trans (bx1 i)
    have rs2 : ∀ i, w2.cell? ⟨w.heap.size + 1, i, none⟩ = #[Value.int .i64 0, .slice none 0 0, .int .i64 0][i]? := fun i => (hb2.cell (p := ⟨w.heap.size + 1, i, none⟩) (by show w.heap.size + 1 < _; omega)).trans ((HB1.out.cell (p := ⟨w.heap.size + 1, i, none⟩) (by show w.heap.size + 1 < _; omega)).trans (HH.out.res i))
    have fr2 : ∀ i, w2.frozen? ⟨w.heap.size + 1, i, none⟩ = false := fun i => (hb2.frozen (p := ⟨w.heap.size + 1, i, none⟩) (by show w.heap.size + 1 < _; omega)).trans ((HB1.out.frozen (p := ⟨w.heap.size + 1, i, none⟩) (by show w.heap.size + 1 < _; omega)).trans (HH.out.fres i))
    have mem2 : Hid (∀ k x, xs[k]? = some x → w2.cell? ⟨mb, mo + k, none⟩ = some (.int .i32 x)) := Lib.hid fun k x hx => (HB2.out.cell (p := ⟨mb, mo + k, none⟩) lm).trans (Hk.out k x hx)
    have lr2 : w.heap.size + 1 < w2.heap.size := by omega
    have lb2 : w.heap.size < w2.heap.size := by omega
    have lp2 : pb < w2.heap.size := by omega
    have lg2 : g < w2.heap.size := by have := HH.out.lgb; omega
    have lm2 : mb < w2.heap.size := by omega
    have hlw := lm
    have hpg := HH.out.st.ne
    have hlg := HH.out.lg
    have hlp' := HH.out.lp
    have q0 := HM2.out.st.c0
    have q1 := HM2.out.st.c1
    have q2 := HM2.out.st.c2
    have zp := HM2.out.fp
    have zg := HM2.out.fm
    clear bx1 hb2 hs0 hs1 hs2 hpb hlp
    go_upto_region 12 with (fail)
    obtain ⟨W, hW⟩ : ∃ W, W = (w2.setCell ⟨pb, 0, none⟩ (.int .i64 ((pc : Int) + 1))).alloc (.cells #[.int .i64 11, .int .i64 a, .int .i64 b, .int .i64 c] 58) := ⟨_, rfl⟩
    rw [← hW]
    obtain ⟨HM, HB, bxW, rsW, frW, memW, inW, szW⟩ := rdy HM2.out HB2.out hx0 bx2 rs2 fr2 mem2.out lm HH.out.lp lp2 lg2 hW
    replace HM := Lib.hid HM
    replace HB := Lib.hid HB
    replace memW := Lib.hid memW
    clear hW bx2 rs2 fr2 mem2 HM2 HB2 q0 q1 q2 zp zg
    have q0 := HM.out.st.c0
    have q1 := HM.out.st.c1
    have q2 := HM.out.st.c2
    have zp := HM.out.fp
    have zg := HM.out.fm
    generalize w2.heap.size = ib at *
    have lgW : g < W.heap.size := by omega
    have hbp : ¬ w.heap.size = pb := by omega
    have hbg : ¬ w.heap.size = g := by omega
    have hrp : ¬ w.heap.size + 1 = pb := by omega
    have hrg : ¬ w.heap.size + 1 = g := by omega
    have hig : ¬ ib = g := by omega
    have hip : ¬ ib = pb := by omega
    have hmp : ¬ mb = pb := by omega
    have hmg : ¬ mb = g := by omega
    have rdb := memW.out b _ (gx_at (show b < xs.length by omega))
    have lb : (b : Int) < (xs.length : Int) := by omega
    have rdc := memW.out c _ (gx_at (show c < xs.length by omega))
    have lc : (c : Int) < (xs.length : Int) := by omega
    obtain ⟨xa, ga⟩ : ∃ xa, W.cell? ⟨g, a, none⟩ = some xa := ⟨_, HM.out.cells a _ (gx_at (show a < xs.length by omega))⟩
    have lda : (a : Int) < (xs.length : Int) := by omega
    have B_b : -2147483648 ≤ gx xs b ∧ gx xs b ≤ 2147483647 := hW.gx (by omega)
    have B_c : -2147483648 ≤ gx xs c ∧ gx xs c ≤ 2147483647 := hW.gx (by omega)
    go_wp2_with fail
    go_still_tail 19, (by kernel_rfl)
    still_call ((rtwo_any 11 _ _ _ (by decide) (by decide) B_b.1 B_b.2 B_c.1 B_c.2).mono (by rintro e w' ⟨rfl, rfl⟩; exact ⟨rfl, rfl⟩))
    repeat still_step
    try refine wpStill_nil ?_
    go_wp2
    refine bodyPost_ret (v := .agg #[.int .i64 ((pc : Int) + 1), .slice (some ⟨g, 0, none⟩) xs.length cap', .int .i64 (0)]) (by simp [results, Tryd.results17, go_sem, *]) rfl ?_
    refine StPost.drew ?_
    exact fin (HM.out.setMem (a := a) (by omega) (twoP 11 (gx xs b) (gx xs c))) (HB.out.setCell (by show w.heap.size ≤ g; omega) _) HH.out.lk hx0 (wx_len _ _ _) hlg
end Go.Proofs.YteecpkkgjioplaaDoor

/- baizeref15.Step: rstep_12 -/
namespace Go.Proofs.YteecpkkgjioplaaDoor
open Go.RowKit Go

set_option linter.unusedSimpArgs false in
set_option linter.unusedVariables false in
set_option maxRecDepth 100000 in
set_option maxHeartbeats 4000000 in
theorem rstep_12 (pc : Nat) (ad : Addr) (cap : Nat) (xs : List Int) (cv : Value) (l : List Ins) (a b c : Int) (w : World) (h : I32s w (.slice (some ad) xs.length cap) xs) (hl : xs.length ≤ 300) (hr : rightSt pc xs.length 0 = true) (hc : InsS w cv l) (hll : l.length ≤ 300) (hW : W32 xs) (hi' : nextP l pc xs.length = some ⟨12, a, b, c⟩) :
    Calls Tryd.prog 17 #[cv, .agg #[.int .i64 pc, .slice (some ad) xs.length cap, .int .i64 0]] w fun e w' => StPost w ((pc : Int) + 1, wx xs a (twoP 12 (gx xs b) (gx xs c)), 0) e w' := by
  obtain ⟨i0, hi, hz0, hz1, hz2⟩ := info_parts info21
  have hlen : (xs.map (Value.int .i32)).length = xs.length * 1 := by simp
  have hml : 0 + xs.length ≤ maxLen := by unfold maxLen; omega
  have hby : (0 + xs.length) * 4 ≤ 140737488355328 := by omega
  obtain ⟨hri, hpc⟩ := nextP_right hi'
  simp only [Int.toNat_natCast] at hri hpc
  have hx0 : 0 < xs.length := by have := (rightSt_iff.1 hr).1; omega
  obtain ⟨ha0, ha1, hb0, hb1, hc0, hc1⟩ := right_www (by simp) hri
  obtain ⟨a, rfl⟩ := Int.eq_ofNat_of_zero_le ha0
  obtain ⟨b, rfl⟩ := Int.eq_ofNat_of_zero_le hb0
  obtain ⟨c, rfl⟩ := Int.eq_ofNat_of_zero_le hc0
  obtain ⟨mb, mo, rfl, lm, hk⟩ := h.look hx0
  have Hk := Lib.hid hk
  have Hn := Lib.hid h
  have Hr := Lib.hid hr
  have Hri := Lib.hid hri
  have Hc := Lib.hid hc
  have Hi := Lib.hid hi'
  have pc0 : (pc : Int) ≤ 300 := by omega
  clear h hr hc hi' hri hk
  go_enter Tryd.func17, Tryd.ntmps17
  go_upto_region 1 with (fail)
  go_cut [5] (fun v5 wc => ∃ pb g cap', v5 = .pointer (some ⟨pb, 0, none⟩) ∧ Head w wc pb g cap' pc (.slice (some ⟨mb, mo, none⟩) xs.length cap) xs 0)
  case first =>
    refine wp_region_held_drew (S := fun w' => w'.cell? ⟨w.heap.size, 0, none⟩ = some (.int .i64 pc) ∧ w'.cell? ⟨w.heap.size, 1, none⟩ = some (.slice (some ⟨mb, mo, none⟩) xs.length cap) ∧ w'.cell? ⟨w.heap.size, 2, none⟩ = some (.int .i64 0)) (by kernel_rfl) (by refine ⟨?_, ?_, ?_⟩ <;> go_simp) (fun hHeld => ?_)
    refine hd_take (i := 0) (some 9) (v := ?v0) rfl rfl (by kernel_rfl) (by kernel_rfl) (by kernel_rfl) (fun _ _ _ h => h) (by rfl) ?h0 (by assumption) ?r0
    case h0 =>
      intro w hSw
      (try dsimp only at hSw)
      go_simp
      (try with_reducible rfl)
    try simp only [Act.put, List.setIfInBounds_toArray, List.set_cons_zero, List.set_cons_succ]
    refine hd_take (i := 1) (some 10) (v := ?v1) rfl rfl (by kernel_rfl) (by kernel_rfl) (by kernel_rfl) (fun _ _ _ h => h) (by rfl) ?h1 (by assumption) ?r1
    case h1 =>
      intro w hSw
      (try dsimp only at hSw)
      go_simp
      (try with_reducible rfl)
    try simp only [Act.put, List.setIfInBounds_toArray, List.set_cons_zero, List.set_cons_succ]
    refine hd_take (i := 3) (some 12) (v := ?v3) rfl rfl (by kernel_rfl) (by kernel_rfl) (by kernel_rfl) (fun _ _ _ h => h) (by rfl) ?h3 (by assumption) ?r3
    case h3 =>
      intro w hSw
      (try dsimp only at hSw)
      go_simp
      (try with_reducible rfl)
    try simp only [Act.put, List.setIfInBounds_toArray, List.set_cons_zero, List.set_cons_succ]
    refine hd_take (i := 4) (some 13) (v := ?v4) rfl rfl (by kernel_rfl) (by kernel_rfl) (by kernel_rfl) (fun _ _ _ h => h) (by rfl) ?h4 (by assumption) ?r4
    case h4 =>
      intro w hSw
      (try dsimp only at hSw)
      go_simp
      (try with_reducible rfl)
    try simp only [Act.put, List.setIfInBounds_toArray, List.set_cons_zero, List.set_cons_succ]
    refine hd_take (i := 6) (some 15) (v := ?v6) rfl rfl (by kernel_rfl) (by kernel_rfl) (by kernel_rfl) (fun _ _ _ h => h) (by rfl) ?h6 (by assumption) ?r6
    case h6 =>
      intro w hSw
      (try dsimp only at hSw)
      go_simp
      (try with_reducible rfl)
    try simp only [Act.put, List.setIfInBounds_toArray, List.set_cons_zero, List.set_cons_succ]
    refine hd_take (i := 7) (some 16) (v := ?v7) rfl rfl (by kernel_rfl) (by kernel_rfl) (by kernel_rfl) (fun _ _ _ h => h) (by rfl) ?h7 (by assumption) ?r7
    case h7 =>
      intro w hSw
      (try dsimp only at hSw)
      go_simp
      (try with_reducible rfl)
    try simp only [Act.put, List.setIfInBounds_toArray, List.set_cons_zero, List.set_cons_succ]
    refine wpAnyH_ready (rs := [2, 9]) (by kernel_rfl) (by simp) ?_
    refine AllReadyH.cons rfl (fun K hK => ?_) (AllReadyH.cons rfl (fun K hK => ?_) AllReadyH.nil)
    · go_simp
      refine hK.out _ _ (by refine ⟨?_, ?_, ?_⟩ <;> go_simp) (fun hH2 => ?_)
      clear hK K
      refine wpAnyH_ready (rs := [5, 9]) (by kernel_rfl) (by simp) ?_
      refine AllReadyH.cons rfl (fun K hK => ?_) (AllReadyH.cons rfl (fun K hK => ?_) AllReadyH.nil)
      · refine step_append_made _ (by rfl) _ _ _ (by rfl) (w.heap.size + 2) 21 i0 _ 1 4 Tryd.underlying23 hi hz0 hz1 hz2 rfl (by omega) ⟨w.heap.size + 2, 0, none⟩ 0 0 [] (by rfl) (by first | exact ownsRow_empty _ _ (by simp) (by omega) | exact ownsRow_empty2 _ _ _ (by simp) (by omega)) ⟨mb, mo, none⟩ xs.length cap (xs.map (Value.int .i32)) (by rfl) hlen (Hn.out.news' (by repeat (first | exact Below.refl _ _ | exact Nat.le_refl _ | apply Below.drew | (refine Below.alloc ?_ (by simp <;> omega) _)))) (one_i32 xs) hml hby (by simp <;> omega) ?_
        intro g cap' w1 hown hgrow
        refine hK.out _ _ (by refine ⟨?_, ?_, ?_⟩ <;> (rw [hgrow.cell_far _ (by simp <;> omega) (by simp <;> omega)]; go_simp)) (fun hH5 => ?_)
        clear hK K
        try simp only [Act.put, List.setIfInBounds_toArray, List.set_cons_zero, List.set_cons_succ]
        rw [Nat.zero_add, List.nil_append] at hown
        rw [Nat.zero_add]
        have hs1 := hgrow.size
        simp at hs1
        refine hd_take (i := 8) (some 17) (v := ?v8x1) rfl rfl (by kernel_rfl) (by kernel_rfl) (by kernel_rfl) (fun _ _ _ h => h) (by rfl) ?h8x1 (by assumption) ?r8x1
        case h8x1 =>
          intro w hSw
          (try dsimp only at hSw)
          go_simp
          (try with_reducible rfl)
        try simp only [Act.put, List.setIfInBounds_toArray, List.set_cons_zero, List.set_cons_succ]
        refine wpAnyH_ready (rs := [9]) (by kernel_rfl) (by simp) ?_
        refine AllReadyH.cons rfl (fun K hK => ?_) AllReadyH.nil
        go_simp
        refine hK.out _ _ (by refine ⟨?_, ?_, ?_⟩ <;> (rw [World.cell?_alloc_past _ _ _ (by omega)]; first | exact hH5.1 | exact hH5.2.1 | exact hH5.2.2)) (fun hH9 => ?_)
        clear hK K
        refine wpAnyH_ready (rs := [10]) (by kernel_rfl) (by simp) ?_
        refine AllReadyH.cons rfl (fun K hK => ?_) AllReadyH.nil
        go_simp
        refine hK.out _ _ (by refine ⟨?_, ?_, ?_⟩ <;> (rw [World.cell?_alloc_past _ _ _ (by omega)]; first | exact hH5.1 | exact hH5.2.1 | exact hH5.2.2)) (fun hH10 => ?_)
        clear hK K
        refine wpAnyH_done (by kernel_rfl) ?_ _
        go_wp2_with fail
        go_meet
        case rel => exact ⟨_, g, cap', rfl, head_new w _ w1 g cap' pc (.slice (some ⟨mb, mo, none⟩) xs.length cap) xs 0 hown hgrow (by repeat (first | exact Below.refl _ _ | exact Nat.le_refl _ | apply Below.drew | (refine Below.alloc ?_ (by simp <;> omega) _))) (by simp <;> omega) (by simp <;> omega) (fun i => by go_simp) (fun i => by go_simp) (fun i => by go_simp)⟩
      · go_simp
        refine hK.out _ _ (by refine ⟨?_, ?_, ?_⟩ <;> go_simp) (fun hH9 => ?_)
        clear hK K
        refine wpAnyH_ready (rs := [5]) (by kernel_rfl) (by simp) ?_
        refine AllReadyH.cons rfl (fun K hK => ?_) AllReadyH.nil
        refine step_append_made _ (by rfl) _ _ _ (by rfl) (w.heap.size + 2) 21 i0 _ 1 4 Tryd.underlying23 hi hz0 hz1 hz2 rfl (by omega) ⟨w.heap.size + 2, 0, none⟩ 0 0 [] (by rfl) (by first | exact ownsRow_empty _ _ (by simp) (by omega) | exact ownsRow_empty2 _ _ _ (by simp) (by omega)) ⟨mb, mo, none⟩ xs.length cap (xs.map (Value.int .i32)) (by rfl) hlen (Hn.out.news' (by repeat (first | exact Below.refl _ _ | exact Nat.le_refl _ | apply Below.drew | (refine Below.alloc ?_ (by simp <;> omega) _)))) (one_i32 xs) hml hby (by simp <;> omega) ?_
        intro g cap' w1 hown hgrow
        refine hK.out _ _ (by refine ⟨?_, ?_, ?_⟩ <;> (rw [hgrow.cell_far _ (by simp <;> omega) (by simp <;> omega)]; go_simp)) (fun hH5 => ?_)
        clear hK K
        try simp only [Act.put, List.setIfInBounds_toArray, List.set_cons_zero, List.set_cons_succ]
        rw [Nat.zero_add, List.nil_append] at hown
        rw [Nat.zero_add]
        have hs1 := hgrow.size
        simp at hs1
        have o0 : ∀ i, w1.cell? ⟨w.heap.size + 3, i, none⟩ = #[Value.int .i64 0, .slice none 0 0, .int .i64 0][i]? := fun i => (hgrow.cell_far _ (by simp <;> omega) (by simp <;> omega)).trans (by go_simp)
        have of : ∀ i, w1.frozen? ⟨w.heap.size + 3, i, none⟩ = false := fun i => (hgrow.frozen_far _ (by simp <;> omega) (by simp <;> omega)).trans (by go_simp)
        refine hd_take (i := 8) (some 17) (v := ?v8x2) rfl rfl (by kernel_rfl) (by kernel_rfl) (by kernel_rfl) (fun _ _ _ h => h) (by rfl) ?h8x2 (by assumption) ?r8x2
        case h8x2 =>
          intro w hSw
          (try dsimp only at hSw)
          go_simp
          (try with_reducible rfl)
        try simp only [Act.put, List.setIfInBounds_toArray, List.set_cons_zero, List.set_cons_succ]
        refine wpAnyH_ready (rs := [10]) (by kernel_rfl) (by simp) ?_
        refine AllReadyH.cons rfl (fun K hK => ?_) AllReadyH.nil
        go_simp
        refine hK.out _ _ (by refine ⟨?_, ?_, ?_⟩ <;> (rw [World.cell?_setCell_far _ _ _ _ (by simp <;> omega), World.cell?_setCell_far _ _ _ _ (by simp <;> omega), World.cell?_setCell_far _ _ _ _ (by simp <;> omega)]; first | exact hH5.1 | exact hH5.2.1 | exact hH5.2.2)) (fun hH10 => ?_)
        clear hK K
        refine wpAnyH_done (by kernel_rfl) ?_ _
        go_wp2_with fail
        go_meet
        case rel => exact ⟨_, g, cap', rfl, head_old w _ w1 _ _ g cap' pc (.slice (some ⟨mb, mo, none⟩) xs.length cap) xs 0 hown hgrow (by repeat (first | exact Below.refl _ _ | exact Nat.le_refl _ | apply Below.drew | (refine Below.alloc ?_ (by simp <;> omega) _))) (by simp <;> omega) (by simp <;> omega) (by simp <;> omega) (by simp <;> omega) (by simp <;> omega) (fun i => by go_simp) (fun i => by go_simp) (fun i => by go_simp) (by first | exact heap_at1 _ _ _ (by simp) | exact heap_at2 _ _ _ _ (by simp))⟩
    · go_simp
      refine hK.out _ _ (by refine ⟨?_, ?_, ?_⟩ <;> go_simp) (fun hH9 => ?_)
      clear hK K
      refine wpAnyH_ready (rs := [2]) (by kernel_rfl) (by simp) ?_
      refine AllReadyH.cons rfl (fun K hK => ?_) AllReadyH.nil
      go_simp
      refine hK.out _ _ (by refine ⟨?_, ?_, ?_⟩ <;> go_simp) (fun hH2 => ?_)
      clear hK K
      refine wpAnyH_ready (rs := [5]) (by kernel_rfl) (by simp) ?_
      refine AllReadyH.cons rfl (fun K hK => ?_) AllReadyH.nil
      refine step_append_made _ (by rfl) _ _ _ (by rfl) (w.heap.size + 2) 21 i0 _ 1 4 Tryd.underlying23 hi hz0 hz1 hz2 rfl (by omega) ⟨w.heap.size + 3, 0, none⟩ 0 0 [] (by rfl) (by first | exact ownsRow_empty _ _ (by simp) (by omega) | exact ownsRow_empty2 _ _ _ (by simp) (by omega)) ⟨mb, mo, none⟩ xs.length cap (xs.map (Value.int .i32)) (by rfl) hlen (Hn.out.news' (by repeat (first | exact Below.refl _ _ | exact Nat.le_refl _ | apply Below.drew | (refine Below.alloc ?_ (by simp <;> omega) _)))) (one_i32 xs) hml hby (by simp <;> omega) ?_
      intro g cap' w1 hown hgrow
      refine hK.out _ _ (by refine ⟨?_, ?_, ?_⟩ <;> (rw [hgrow.cell_far _ (by simp <;> omega) (by simp <;> omega)]; go_simp)) (fun hH5 => ?_)
      clear hK K
      try simp only [Act.put, List.setIfInBounds_toArray, List.set_cons_zero, List.set_cons_succ]
      rw [Nat.zero_add, List.nil_append] at hown
      rw [Nat.zero_add]
      have hs1 := hgrow.size
      simp at hs1
      have o0 : ∀ i, w1.cell? ⟨w.heap.size + 2, i, none⟩ = #[Value.int .i64 0, .slice none 0 0, .int .i64 0][i]? := fun i => (hgrow.cell_far _ (by simp <;> omega) (by simp <;> omega)).trans (by go_simp)
      have of : ∀ i, w1.frozen? ⟨w.heap.size + 2, i, none⟩ = false := fun i => (hgrow.frozen_far _ (by simp <;> omega) (by simp <;> omega)).trans (by go_simp)
      refine hd_take (i := 8) (some 17) (v := ?v8x3) rfl rfl (by kernel_rfl) (by kernel_rfl) (by kernel_rfl) (fun _ _ _ h => h) (by rfl) ?h8x3 (by assumption) ?r8x3
      case h8x3 =>
        intro w hSw
        (try dsimp only at hSw)
        go_simp
        (try with_reducible rfl)
      try simp only [Act.put, List.setIfInBounds_toArray, List.set_cons_zero, List.set_cons_succ]
      refine wpAnyH_ready (rs := [10]) (by kernel_rfl) (by simp) ?_
      refine AllReadyH.cons rfl (fun K hK => ?_) AllReadyH.nil
      go_simp
      refine hK.out _ _ (by refine ⟨?_, ?_, ?_⟩ <;> (rw [World.cell?_setCell_far _ _ _ _ (by simp <;> omega), World.cell?_setCell_far _ _ _ _ (by simp <;> omega), World.cell?_setCell_far _ _ _ _ (by simp <;> omega)]; first | exact hH5.1 | exact hH5.2.1 | exact hH5.2.2)) (fun hH10 => ?_)
      clear hK K
      refine wpAnyH_done (by kernel_rfl) ?_ _
      go_wp2_with fail
      go_meet
      case rel => exact ⟨_, g, cap', rfl, head_old w _ w1 _ _ g cap' pc (.slice (some ⟨mb, mo, none⟩) xs.length cap) xs 0 hown hgrow (by repeat (first | exact Below.refl _ _ | exact Nat.le_refl _ | apply Below.drew | (refine Below.alloc ?_ (by simp <;> omega) _))) (by simp <;> omega) (by simp <;> omega) (by simp <;> omega) (by simp <;> omega) (by simp <;> omega) (fun i => by go_simp) (fun i => by go_simp) (fun i => by go_simp) (by first | exact heap_at1 _ _ _ (by simp) | exact heap_at2 _ _ _ _ (by simp))⟩
  case rest =>
    obtain ⟨pb, g, cap', rfl, hH⟩ := hcut
    have HH := Lib.hid hH
    have bx := hH.box
    clear hH
    go_wp2_with fail
    refine (rright_any pc 0 _ _ _ _).mono ?_
    rintro e w1 ⟨rfl, hb1⟩
    have hs0 := HH.out.below.size
    have hpb := HH.out.lpb
    have hlp := HH.out.lp
    have bx1 : ∀ i, w1.cell? ⟨w.heap.size, i, none⟩ = #[Value.int .i64 pc, .slice (some ⟨mb, mo, none⟩) xs.length cap, .int .i64 0][i]? := fun i => (hb1.cell (p := ⟨w.heap.size, i, none⟩) (by show w.heap.size < _; omega)).trans (bx i)
    have HB1 := Lib.hid hb1
    clear bx hb1
    rw [Hr.out]
    go_wp2_with fail
    refine (rnext_yes pc _ _ _ l cv _ _ Hr.out ((Hc.out.below HH.out.below (Nat.le_refl _)).below HB1.out (Nat.le_refl _)) hll Hi.out).mono ?_
    rintro e w2 ⟨rfl, hb2⟩
    have hs1 := HB1.out.size
    have hs2 := hb2.size
    have HM2 : Hid (MSt w2 pb g cap' pc xs 0) := Lib.hid ((HH.out.st.below hx0 HB1.out).below hx0 hb2)
    have HB2 : Hid (Below w.heap.size w w2) := Lib.hid ((HH.out.below.trans (HB1.out.mono (by omega))).trans (hb2.mono (by omega)))
    have bx2 : ∀ i, w2.cell? ⟨w.heap.size, i, none⟩ = #[Value.int .i64 pc, .slice (some ⟨mb, mo, none⟩) xs.length cap, .int .i64 0][i]? := fun i => (hb2.cell (p := ⟨w.heap.size, i, none⟩) (by show w.heap.size < _; omega)).trans (bx1 i)
    have rs2 : ∀ i, w2.cell? ⟨w.heap.size + 1, i, none⟩ = #[Value.int .i64 0, .slice none 0 0, .int .i64 0][i]? := fun i => (hb2.cell (p := ⟨w.heap.size + 1, i, none⟩) (by show w.heap.size + 1 < _; omega)).trans ((HB1.out.cell (p := ⟨w.heap.size + 1, i, none⟩) (by show w.heap.size + 1 < _; omega)).trans (HH.out.res i))
    have fr2 : ∀ i, w2.frozen? ⟨w.heap.size + 1, i, none⟩ = false := fun i => (hb2.frozen (p := ⟨w.heap.size + 1, i, none⟩) (by show w.heap.size + 1 < _; omega)).trans ((HB1.out.frozen (p := ⟨w.heap.size + 1, i, none⟩) (by show w.heap.size + 1 < _; omega)).trans (HH.out.fres i))
    have mem2 : Hid (∀ k x, xs[k]? = some x → w2.cell? ⟨mb, mo + k, none⟩ = some (.int .i32 x)) := Lib.hid fun k x hx => (HB2.out.cell (p := ⟨mb, mo + k, none⟩) lm).trans (Hk.out k x hx)
    have lr2 : w.heap.size + 1 < w2.heap.size := by omega
    have lb2 : w.heap.size < w2.heap.size := by omega
    have lp2 : pb < w2.heap.size := by omega
    have lg2 : g < w2.heap.size := by have := HH.out.lgb; omega
    have lm2 : mb < w2.heap.size := by omega
    have hlw := lm
    have hpg := HH.out.st.ne
    have hlg := HH.out.lg
    have hlp' := HH.out.lp
    have q0 := HM2.out.st.c0
    have q1 := HM2.out.st.c1
    have q2 := HM2.out.st.c2
    have zp := HM2.out.fp
    have zg := HM2.out.fm
    clear bx1 hb2 hs0 hs1 hs2 hpb hlp
    go_upto_region 12 with (fail)
    obtain ⟨W, hW⟩ : ∃ W, W = (w2.setCell ⟨pb, 0, none⟩ (.int .i64 ((pc : Int) + 1))).alloc (.cells #[.int .i64 12, .int .i64 a, .int .i64 b, .int .i64 c] 58) := ⟨_, rfl⟩
    rw [← hW]
    obtain ⟨HM, HB, bxW, rsW, frW, memW, inW, szW⟩ := rdy HM2.out HB2.out hx0 bx2 rs2 fr2 mem2.out lm HH.out.lp lp2 lg2 hW
    replace HM := Lib.hid HM
    replace HB := Lib.hid HB
    replace memW := Lib.hid memW
    clear hW bx2 rs2 fr2 mem2 HM2 HB2 q0 q1 q2 zp zg
    have q0 := HM.out.st.c0
    have q1 := HM.out.st.c1
    have q2 := HM.out.st.c2
    have zp := HM.out.fp
    have zg := HM.out.fm
    generalize w2.heap.size = ib at *
    have lgW : g < W.heap.size := by omega
    have hbp : ¬ w.heap.size = pb := by omega
    have hbg : ¬ w.heap.size = g := by omega
    have hrp : ¬ w.heap.size + 1 = pb := by omega
    have hrg : ¬ w.heap.size + 1 = g := by omega
    have hig : ¬ ib = g := by omega
    have hip : ¬ ib = pb := by omega
    have hmp : ¬ mb = pb := by omega
    have hmg : ¬ mb = g := by omega
    have rdb := memW.out b _ (gx_at (show b < xs.length by omega))
    have lb : (b : Int) < (xs.length : Int) := by omega
    have rdc := memW.out c _ (gx_at (show c < xs.length by omega))
    have lc : (c : Int) < (xs.length : Int) := by omega
    obtain ⟨xa, ga⟩ : ∃ xa, W.cell? ⟨g, a, none⟩ = some xa := ⟨_, HM.out.cells a _ (gx_at (show a < xs.length by omega))⟩
    have lda : (a : Int) < (xs.length : Int) := by omega
    have B_b : -2147483648 ≤ gx xs b ∧ gx xs b ≤ 2147483647 := hW.gx (by omega)
    have B_c : -2147483648 ≤ gx xs c ∧ gx xs c ≤ 2147483647 := hW.gx (by omega)
    go_wp2_with fail
    go_still_tail 19, (by kernel_rfl)
    still_call ((rtwo_any 12 _ _ _ (by decide) (by decide) B_b.1 B_b.2 B_c.1 B_c.2).mono (by rintro e w' ⟨rfl, rfl⟩; exact ⟨rfl, rfl⟩))
    repeat still_step
    try refine wpStill_nil ?_
    go_wp2
    refine bodyPost_ret (v := .agg #[.int .i64 ((pc : Int) + 1), .slice (some ⟨g, 0, none⟩) xs.length cap', .int .i64 (0)]) (by simp [results, Tryd.results17, go_sem, *]) rfl ?_
    refine StPost.drew ?_
    exact fin (HM.out.setMem (a := a) (by omega) (twoP 12 (gx xs b) (gx xs c))) (HB.out.setCell (by show w.heap.size ≤ g; omega) _) HH.out.lk hx0 (wx_len _ _ _) hlg
end Go.Proofs.YteecpkkgjioplaaDoor

/- baizeref15.Step: rstep_13 -/
namespace Go.Proofs.YteecpkkgjioplaaDoor
open Go.RowKit Go

set_option linter.unusedSimpArgs false in
set_option linter.unusedVariables false in
set_option maxRecDepth 100000 in
set_option maxHeartbeats 4000000 in
theorem rstep_13 (pc : Nat) (ad : Addr) (cap : Nat) (xs : List Int) (cv : Value) (l : List Ins) (a b c : Int) (w : World) (h : I32s w (.slice (some ad) xs.length cap) xs) (hl : xs.length ≤ 300) (hr : rightSt pc xs.length 0 = true) (hc : InsS w cv l) (hll : l.length ≤ 300) (hW : W32 xs) (hi' : nextP l pc xs.length = some ⟨13, a, b, c⟩) :
    Calls Tryd.prog 17 #[cv, .agg #[.int .i64 pc, .slice (some ad) xs.length cap, .int .i64 0]] w fun e w' => StPost w ((pc : Int) + 1, wx xs a (twoP 13 (gx xs b) (gx xs c)), 0) e w' := by
  obtain ⟨i0, hi, hz0, hz1, hz2⟩ := info_parts info21
  have hlen : (xs.map (Value.int .i32)).length = xs.length * 1 := by simp
  have hml : 0 + xs.length ≤ maxLen := by unfold maxLen; omega
  have hby : (0 + xs.length) * 4 ≤ 140737488355328 := by omega
  obtain ⟨hri, hpc⟩ := nextP_right hi'
  simp only [Int.toNat_natCast] at hri hpc
  have hx0 : 0 < xs.length := by have := (rightSt_iff.1 hr).1; omega
  obtain ⟨ha0, ha1, hb0, hb1, hc0, hc1⟩ := right_www (by simp) hri
  obtain ⟨a, rfl⟩ := Int.eq_ofNat_of_zero_le ha0
  obtain ⟨b, rfl⟩ := Int.eq_ofNat_of_zero_le hb0
  obtain ⟨c, rfl⟩ := Int.eq_ofNat_of_zero_le hc0
  obtain ⟨mb, mo, rfl, lm, hk⟩ := h.look hx0
  have Hk := Lib.hid hk
  have Hn := Lib.hid h
  have Hr := Lib.hid hr
  have Hri := Lib.hid hri
  have Hc := Lib.hid hc
  have Hi := Lib.hid hi'
  have pc0 : (pc : Int) ≤ 300 := by omega
  clear h hr hc hi' hri hk
  go_enter Tryd.func17, Tryd.ntmps17
  go_upto_region 1 with (fail)
  go_cut [5] (fun v5 wc => ∃ pb g cap', v5 = .pointer (some ⟨pb, 0, none⟩) ∧ Head w wc pb g cap' pc (.slice (some ⟨mb, mo, none⟩) xs.length cap) xs 0)
  case first =>
    refine wp_region_held_drew (S := fun w' => w'.cell? ⟨w.heap.size, 0, none⟩ = some (.int .i64 pc) ∧ w'.cell? ⟨w.heap.size, 1, none⟩ = some (.slice (some ⟨mb, mo, none⟩) xs.length cap) ∧ w'.cell? ⟨w.heap.size, 2, none⟩ = some (.int .i64 0)) (by kernel_rfl) (by refine ⟨?_, ?_, ?_⟩ <;> go_simp) (fun hHeld => ?_)
    refine hd_take (i := 0) (some 9) (v := ?v0) rfl rfl (by kernel_rfl) (by kernel_rfl) (by kernel_rfl) (fun _ _ _ h => h) (by rfl) ?h0 (by assumption) ?r0
    case h0 =>
      intro w hSw
      (try dsimp only at hSw)
      go_simp
      (try with_reducible rfl)
    try simp only [Act.put, List.setIfInBounds_toArray, List.set_cons_zero, List.set_cons_succ]
    refine hd_take (i := 1) (some 10) (v := ?v1) rfl rfl (by kernel_rfl) (by kernel_rfl) (by kernel_rfl) (fun _ _ _ h => h) (by rfl) ?h1 (by assumption) ?r1
    case h1 =>
      intro w hSw
      (try dsimp only at hSw)
      go_simp
      (try with_reducible rfl)
    try simp only [Act.put, List.setIfInBounds_toArray, List.set_cons_zero, List.set_cons_succ]
    refine hd_take (i := 3) (some 12) (v := ?v3) rfl rfl (by kernel_rfl) (by kernel_rfl) (by kernel_rfl) (fun _ _ _ h => h) (by rfl) ?h3 (by assumption) ?r3
    case h3 =>
      intro w hSw
      (try dsimp only at hSw)
      go_simp
      (try with_reducible rfl)
    try simp only [Act.put, List.setIfInBounds_toArray, List.set_cons_zero, List.set_cons_succ]
    refine hd_take (i := 4) (some 13) (v := ?v4) rfl rfl (by kernel_rfl) (by kernel_rfl) (by kernel_rfl) (fun _ _ _ h => h) (by rfl) ?h4 (by assumption) ?r4
    case h4 =>
      intro w hSw
      (try dsimp only at hSw)
      go_simp
      (try with_reducible rfl)
    try simp only [Act.put, List.setIfInBounds_toArray, List.set_cons_zero, List.set_cons_succ]
    refine hd_take (i := 6) (some 15) (v := ?v6) rfl rfl (by kernel_rfl) (by kernel_rfl) (by kernel_rfl) (fun _ _ _ h => h) (by rfl) ?h6 (by assumption) ?r6
    case h6 =>
      intro w hSw
      (try dsimp only at hSw)
      go_simp
      (try with_reducible rfl)
    try simp only [Act.put, List.setIfInBounds_toArray, List.set_cons_zero, List.set_cons_succ]
    refine hd_take (i := 7) (some 16) (v := ?v7) rfl rfl (by kernel_rfl) (by kernel_rfl) (by kernel_rfl) (fun _ _ _ h => h) (by rfl) ?h7 (by assumption) ?r7
    case h7 =>
      intro w hSw
      (try dsimp only at hSw)
      go_simp
      (try with_reducible rfl)
    try simp only [Act.put, List.setIfInBounds_toArray, List.set_cons_zero, List.set_cons_succ]
    refine wpAnyH_ready (rs := [2, 9]) (by kernel_rfl) (by simp) ?_
    refine AllReadyH.cons rfl (fun K hK => ?_) (AllReadyH.cons rfl (fun K hK => ?_) AllReadyH.nil)
    · go_simp
      refine hK.out _ _ (by refine ⟨?_, ?_, ?_⟩ <;> go_simp) (fun hH2 => ?_)
      clear hK K
      refine wpAnyH_ready (rs := [5, 9]) (by kernel_rfl) (by simp) ?_
      refine AllReadyH.cons rfl (fun K hK => ?_) (AllReadyH.cons rfl (fun K hK => ?_) AllReadyH.nil)
      · refine step_append_made _ (by rfl) _ _ _ (by rfl) (w.heap.size + 2) 21 i0 _ 1 4 Tryd.underlying23 hi hz0 hz1 hz2 rfl (by omega) ⟨w.heap.size + 2, 0, none⟩ 0 0 [] (by rfl) (by first | exact ownsRow_empty _ _ (by simp) (by omega) | exact ownsRow_empty2 _ _ _ (by simp) (by omega)) ⟨mb, mo, none⟩ xs.length cap (xs.map (Value.int .i32)) (by rfl) hlen (Hn.out.news' (by repeat (first | exact Below.refl _ _ | exact Nat.le_refl _ | apply Below.drew | (refine Below.alloc ?_ (by simp <;> omega) _)))) (one_i32 xs) hml hby (by simp <;> omega) ?_
        intro g cap' w1 hown hgrow
        refine hK.out _ _ (by refine ⟨?_, ?_, ?_⟩ <;> (rw [hgrow.cell_far _ (by simp <;> omega) (by simp <;> omega)]; go_simp)) (fun hH5 => ?_)
        clear hK K
        try simp only [Act.put, List.setIfInBounds_toArray, List.set_cons_zero, List.set_cons_succ]
        rw [Nat.zero_add, List.nil_append] at hown
        rw [Nat.zero_add]
        have hs1 := hgrow.size
        simp at hs1
        refine hd_take (i := 8) (some 17) (v := ?v8x1) rfl rfl (by kernel_rfl) (by kernel_rfl) (by kernel_rfl) (fun _ _ _ h => h) (by rfl) ?h8x1 (by assumption) ?r8x1
        case h8x1 =>
          intro w hSw
          (try dsimp only at hSw)
          go_simp
          (try with_reducible rfl)
        try simp only [Act.put, List.setIfInBounds_toArray, List.set_cons_zero, List.set_cons_succ]
        refine wpAnyH_ready (rs := [9]) (by kernel_rfl) (by simp) ?_
        refine AllReadyH.cons rfl (fun K hK => ?_) AllReadyH.nil
        go_simp
        refine hK.out _ _ (by refine ⟨?_, ?_, ?_⟩ <;> (rw [World.cell?_alloc_past _ _ _ (by omega)]; first | exact hH5.1 | exact hH5.2.1 | exact hH5.2.2)) (fun hH9 => ?_)
        clear hK K
        refine wpAnyH_ready (rs := [10]) (by kernel_rfl) (by simp) ?_
        refine AllReadyH.cons rfl (fun K hK => ?_) AllReadyH.nil
        go_simp
        refine hK.out _ _ (by refine ⟨?_, ?_, ?_⟩ <;> (rw [World.cell?_alloc_past _ _ _ (by omega)]; first | exact hH5.1 | exact hH5.2.1 | exact hH5.2.2)) (fun hH10 => ?_)
        clear hK K
        refine wpAnyH_done (by kernel_rfl) ?_ _
        go_wp2_with fail
        go_meet
        case rel => exact ⟨_, g, cap', rfl, head_new w _ w1 g cap' pc (.slice (some ⟨mb, mo, none⟩) xs.length cap) xs 0 hown hgrow (by repeat (first | exact Below.refl _ _ | exact Nat.le_refl _ | apply Below.drew | (refine Below.alloc ?_ (by simp <;> omega) _))) (by simp <;> omega) (by simp <;> omega) (fun i => by go_simp) (fun i => by go_simp) (fun i => by go_simp)⟩
      · go_simp
        refine hK.out _ _ (by refine ⟨?_, ?_, ?_⟩ <;> go_simp) (fun hH9 => ?_)
        clear hK K
        refine wpAnyH_ready (rs := [5]) (by kernel_rfl) (by simp) ?_
        refine AllReadyH.cons rfl (fun K hK => ?_) AllReadyH.nil
        refine step_append_made _ (by rfl) _ _ _ (by rfl) (w.heap.size + 2) 21 i0 _ 1 4 Tryd.underlying23 hi hz0 hz1 hz2 rfl (by omega) ⟨w.heap.size + 2, 0, none⟩ 0 0 [] (by rfl) (by first | exact ownsRow_empty _ _ (by simp) (by omega) | exact ownsRow_empty2 _ _ _ (by simp) (by omega)) ⟨mb, mo, none⟩ xs.length cap (xs.map (Value.int .i32)) (by rfl) hlen (Hn.out.news' (by repeat (first | exact Below.refl _ _ | exact Nat.le_refl _ | apply Below.drew | (refine Below.alloc ?_ (by simp <;> omega) _)))) (one_i32 xs) hml hby (by simp <;> omega) ?_
        intro g cap' w1 hown hgrow
        refine hK.out _ _ (by refine ⟨?_, ?_, ?_⟩ <;> (rw [hgrow.cell_far _ (by simp <;> omega) (by simp <;> omega)]; go_simp)) (fun hH5 => ?_)
        clear hK K
        try simp only [Act.put, List.setIfInBounds_toArray, List.set_cons_zero, List.set_cons_succ]
        rw [Nat.zero_add, List.nil_append] at hown
        rw [Nat.zero_add]
        have hs1 := hgrow.size
        simp at hs1
        have o0 : ∀ i, w1.cell? ⟨w.heap.size + 3, i, none⟩ = #[Value.int .i64 0, .slice none 0 0, .int .i64 0][i]? := fun i => (hgrow.cell_far _ (by simp <;> omega) (by simp <;> omega)).trans (by go_simp)
        have of : ∀ i, w1.frozen? ⟨w.heap.size + 3, i, none⟩ = false := fun i => (hgrow.frozen_far _ (by simp <;> omega) (by simp <;> omega)).trans (by go_simp)
        refine hd_take (i := 8) (some 17) (v := ?v8x2) rfl rfl (by kernel_rfl) (by kernel_rfl) (by kernel_rfl) (fun _ _ _ h => h) (by rfl) ?h8x2 (by assumption) ?r8x2
        case h8x2 =>
          intro w hSw
          (try dsimp only at hSw)
          go_simp
          (try with_reducible rfl)
        try simp only [Act.put, List.setIfInBounds_toArray, List.set_cons_zero, List.set_cons_succ]
        refine wpAnyH_ready (rs := [10]) (by kernel_rfl) (by simp) ?_
        refine AllReadyH.cons rfl (fun K hK => ?_) AllReadyH.nil
        go_simp
        refine hK.out _ _ (by refine ⟨?_, ?_, ?_⟩ <;> (rw [World.cell?_setCell_far _ _ _ _ (by simp <;> omega), World.cell?_setCell_far _ _ _ _ (by simp <;> omega), World.cell?_setCell_far _ _ _ _ (by simp <;> omega)]; first | exact hH5.1 | exact hH5.2.1 | exact hH5.2.2)) (fun hH10 => ?_)
        clear hK K
        refine wpAnyH_done (by kernel_rfl) ?_ _
        go_wp2_with fail
        go_meet
        case rel => exact ⟨_, g, cap', rfl, head_old w _ w1 _ _ g cap' pc (.slice (some ⟨mb, mo, none⟩) xs.length cap) xs 0 hown hgrow (by repeat (first | exact Below.refl _ _ | exact Nat.le_refl _ | apply Below.drew | (refine Below.alloc ?_ (by simp <;> omega) _))) (by simp <;> omega) (by simp <;> omega) (by simp <;> omega) (by simp <;> omega) (by simp <;> omega) (fun i => by go_simp) (fun i => by go_simp) (fun i => by go_simp) (by first | exact heap_at1 _ _ _ (by simp) | exact heap_at2 _ _ _ _ (by simp))⟩
    · go_simp
      refine hK.out _ _ (by refine ⟨?_, ?_, ?_⟩ <;> go_simp) (fun hH9 => ?_)
      clear hK K
      refine wpAnyH_ready (rs := [2]) (by kernel_rfl) (by simp) ?_
      refine AllReadyH.cons rfl (fun K hK => ?_) AllReadyH.nil
      go_simp
      refine hK.out _ _ (by refine ⟨?_, ?_, ?_⟩ <;> go_simp) (fun hH2 => ?_)
      clear hK K
      refine wpAnyH_ready (rs := [5]) (by kernel_rfl) (by simp) ?_
      refine AllReadyH.cons rfl (fun K hK => ?_) AllReadyH.nil
      refine step_append_made _ (by rfl) _ _ _ (by rfl) (w.heap.size + 2) 21 i0 _ 1 4 Tryd.underlying23 hi hz0 hz1 hz2 rfl (by omega) ⟨w.heap.size + 3, 0, none⟩ 0 0 [] (by rfl) (by first | exact ownsRow_empty _ _ (by simp) (by omega) | exact ownsRow_empty2 _ _ _ (by simp) (by omega)) ⟨mb, mo, none⟩ xs.length cap (xs.map (Value.int .i32)) (by rfl) hlen (Hn.out.news' (by repeat (first | exact Below.refl _ _ | exact Nat.le_refl _ | apply Below.drew | (refine Below.alloc ?_ (by simp <;> omega) _)))) (one_i32 xs) hml hby (by simp <;> omega) ?_
      intro g cap' w1 hown hgrow
      refine hK.out _ _ (by refine ⟨?_, ?_, ?_⟩ <;> (rw [hgrow.cell_far _ (by simp <;> omega) (by simp <;> omega)]; go_simp)) (fun hH5 => ?_)
      clear hK K
      try simp only [Act.put, List.setIfInBounds_toArray, List.set_cons_zero, List.set_cons_succ]
      rw [Nat.zero_add, List.nil_append] at hown
      rw [Nat.zero_add]
      have hs1 := hgrow.size
      simp at hs1
      have o0 : ∀ i, w1.cell? ⟨w.heap.size + 2, i, none⟩ = #[Value.int .i64 0, .slice none 0 0, .int .i64 0][i]? := fun i => (hgrow.cell_far _ (by simp <;> omega) (by simp <;> omega)).trans (by go_simp)
      have of : ∀ i, w1.frozen? ⟨w.heap.size + 2, i, none⟩ = false := fun i => (hgrow.frozen_far _ (by simp <;> omega) (by simp <;> omega)).trans (by go_simp)
      refine hd_take (i := 8) (some 17) (v := ?v8x3) rfl rfl (by kernel_rfl) (by kernel_rfl) (by kernel_rfl) (fun _ _ _ h => h) (by rfl) ?h8x3 (by assumption) ?r8x3
      case h8x3 =>
        intro w hSw
        (try dsimp only at hSw)
        go_simp
        (try with_reducible rfl)
      try simp only [Act.put, List.setIfInBounds_toArray, List.set_cons_zero, List.set_cons_succ]
      refine wpAnyH_ready (rs := [10]) (by kernel_rfl) (by simp) ?_
      refine AllReadyH.cons rfl (fun K hK => ?_) AllReadyH.nil
      go_simp
      refine hK.out _ _ (by refine ⟨?_, ?_, ?_⟩ <;> (rw [World.cell?_setCell_far _ _ _ _ (by simp <;> omega), World.cell?_setCell_far _ _ _ _ (by simp <;> omega), World.cell?_setCell_far _ _ _ _ (by simp <;> omega)]; first | exact hH5.1 | exact hH5.2.1 | exact hH5.2.2)) (fun hH10 => ?_)
      clear hK K
      refine wpAnyH_done (by kernel_rfl) ?_ _
      go_wp2_with fail
      go_meet
      case rel => exact ⟨_, g, cap', rfl, head_old w _ w1 _ _ g cap' pc (.slice (some ⟨mb, mo, none⟩) xs.length cap) xs 0 hown hgrow (by repeat (first | exact Below.refl _ _ | exact Nat.le_refl _ | apply Below.drew | (refine Below.alloc ?_ (by simp <;> omega) _))) (by simp <;> omega) (by simp <;> omega) (by simp <;> omega) (by simp <;> omega) (by simp <;> omega) (fun i => by go_simp) (fun i => by go_simp) (fun i => by go_simp) (by first | exact heap_at1 _ _ _ (by simp) | exact heap_at2 _ _ _ _ (by simp))⟩
  case rest =>
    obtain ⟨pb, g, cap', rfl, hH⟩ := hcut
    have HH := Lib.hid hH
    have bx := hH.box
    clear hH
    go_wp2_with fail
    refine (rright_any pc 0 _ _ _ _).mono ?_
    rintro e w1 ⟨rfl, hb1⟩
    have hs0 := HH.out.below.size
    have hpb := HH.out.lpb
    have hlp := HH.out.lp
    have bx1 : ∀ i, w1.cell? ⟨w.heap.size, i, none⟩ = #[Value.int .i64 pc, .slice (some ⟨mb, mo, none⟩) xs.length cap, .int .i64 0][i]? := fun i => (hb1.cell (p := ⟨w.heap.size, i, none⟩) (by show w.heap.size < _; omega)).trans (bx i)
    have HB1 := Lib.hid hb1
    clear bx hb1
    rw [Hr.out]
    go_wp2_with fail
    refine (rnext_yes pc _ _ _ l cv _ _ Hr.out ((Hc.out.below HH.out.below (Nat.le_refl _)).below HB1.out (Nat.le_refl _)) hll Hi.out).mono ?_
    rintro e w2 ⟨rfl, hb2⟩
    have hs1 := HB1.out.size
    have hs2 := hb2.size
    have HM2 : Hid (MSt w2 pb g cap' pc xs 0) := Lib.hid ((HH.out.st.below hx0 HB1.out).below hx0 hb2)
    have HB2 : Hid (Below w.heap.size w w2) := Lib.hid ((HH.out.below.trans (HB1.out.mono (by omega))).trans (hb2.mono (by omega)))
    have bx2 : ∀ i, w2.cell? ⟨w.heap.size, i, none⟩ = #[Value.int .i64 pc, .slice (some ⟨mb, mo, none⟩) xs.length cap, .int .i64 0][i]? := fun i => (hb2.cell (p := ⟨w.heap.size, i, none⟩) (by show w.heap.size < _; omega)).trans (bx1 i)
    have rs2 : ∀ i, w2.cell? ⟨w.heap.size + 1, i, none⟩ = #[Value.int .i64 0, .slice none 0 0, .int .i64 0][i]? := fun i => (hb2.cell (p := ⟨w.heap.size + 1, i, none⟩) (by show w.heap.size + 1 < _; omega)).trans ((HB1.out.cell (p := ⟨w.heap.size + 1, i, none⟩) (by show w.heap.size + 1 < _; omega)).trans (HH.out.res i))
    have fr2 : ∀ i, w2.frozen? ⟨w.heap.size + 1, i, none⟩ = false := fun i => (hb2.frozen (p := ⟨w.heap.size + 1, i, none⟩) (by show w.heap.size + 1 < _; omega)).trans ((HB1.out.frozen (p := ⟨w.heap.size + 1, i, none⟩) (by show w.heap.size + 1 < _; omega)).trans (HH.out.fres i))
    have mem2 : Hid (∀ k x, xs[k]? = some x → w2.cell? ⟨mb, mo + k, none⟩ = some (.int .i32 x)) := Lib.hid fun k x hx => (HB2.out.cell (p := ⟨mb, mo + k, none⟩) lm).trans (Hk.out k x hx)
    have lr2 : w.heap.size + 1 < w2.heap.size := by omega
    have lb2 : w.heap.size < w2.heap.size := by omega
    have lp2 : pb < w2.heap.size := by omega
    have lg2 : g < w2.heap.size := by have := HH.out.lgb; omega
    have lm2 : mb < w2.heap.size := by omega
    have hlw := lm
    have hpg := HH.out.st.ne
    have hlg := HH.out.lg
    have hlp' := HH.out.lp
    have q0 := HM2.out.st.c0
    have q1 := HM2.out.st.c1
    have q2 := HM2.out.st.c2
    have zp := HM2.out.fp
    have zg := HM2.out.fm
    clear bx1 hb2 hs0 hs1 hs2 hpb hlp
    go_upto_region 12 with (fail)
    obtain ⟨W, hW⟩ : ∃ W, W = (w2.setCell ⟨pb, 0, none⟩ (.int .i64 ((pc : Int) + 1))).alloc (.cells #[.int .i64 13, .int .i64 a, .int .i64 b, .int .i64 c] 58) := ⟨_, rfl⟩
    rw [← hW]
    obtain ⟨HM, HB, bxW, rsW, frW, memW, inW, szW⟩ := rdy HM2.out HB2.out hx0 bx2 rs2 fr2 mem2.out lm HH.out.lp lp2 lg2 hW
    replace HM := Lib.hid HM
    replace HB := Lib.hid HB
    replace memW := Lib.hid memW
    clear hW bx2 rs2 fr2 mem2 HM2 HB2 q0 q1 q2 zp zg
    have q0 := HM.out.st.c0
    have q1 := HM.out.st.c1
    have q2 := HM.out.st.c2
    have zp := HM.out.fp
    have zg := HM.out.fm
    generalize w2.heap.size = ib at *
    have lgW : g < W.heap.size := by omega
    have hbp : ¬ w.heap.size = pb := by omega
    have hbg : ¬ w.heap.size = g := by omega
    have hrp : ¬ w.heap.size + 1 = pb := by omega
    have hrg : ¬ w.heap.size + 1 = g := by omega
    have hig : ¬ ib = g := by omega
    have hip : ¬ ib = pb := by omega
    have hmp : ¬ mb = pb := by omega
    have hmg : ¬ mb = g := by omega
    have rdb := memW.out b _ (gx_at (show b < xs.length by omega))
    have lb : (b : Int) < (xs.length : Int) := by omega
    have rdc := memW.out c _ (gx_at (show c < xs.length by omega))
    have lc : (c : Int) < (xs.length : Int) := by omega
    obtain ⟨xa, ga⟩ : ∃ xa, W.cell? ⟨g, a, none⟩ = some xa := ⟨_, HM.out.cells a _ (gx_at (show a < xs.length by omega))⟩
    have lda : (a : Int) < (xs.length : Int) := by omega
    have B_b : -2147483648 ≤ gx xs b ∧ gx xs b ≤ 2147483647 := hW.gx (by omega)
    have B_c : -2147483648 ≤ gx xs c ∧ gx xs c ≤ 2147483647 := hW.gx (by omega)
    go_wp2_with fail
    go_still_tail 19, (by kernel_rfl)
    still_call ((rtwo_any 13 _ _ _ (by decide) (by decide) B_b.1 B_b.2 B_c.1 B_c.2).mono (by rintro e w' ⟨rfl, rfl⟩; exact ⟨rfl, rfl⟩))
    repeat still_step
    try refine wpStill_nil ?_
    go_wp2
    refine bodyPost_ret (v := .agg #[.int .i64 ((pc : Int) + 1), .slice (some ⟨g, 0, none⟩) xs.length cap', .int .i64 (0)]) (by simp [results, Tryd.results17, go_sem, *]) rfl ?_
    refine StPost.drew ?_
    exact fin (HM.out.setMem (a := a) (by omega) (twoP 13 (gx xs b) (gx xs c))) (HB.out.setCell (by show w.heap.size ≤ g; omega) _) HH.out.lk hx0 (wx_len _ _ _) hlg
end Go.Proofs.YteecpkkgjioplaaDoor

/- baizeref15.Step: rstep_14 -/
namespace Go.Proofs.YteecpkkgjioplaaDoor
open Go.RowKit Go

set_option linter.unusedSimpArgs false in
set_option linter.unusedVariables false in
set_option maxRecDepth 100000 in
set_option maxHeartbeats 4000000 in
theorem rstep_14 (pc : Nat) (ad : Addr) (cap : Nat) (xs : List Int) (cv : Value) (l : List Ins) (a b c : Int) (w : World) (h : I32s w (.slice (some ad) xs.length cap) xs) (hl : xs.length ≤ 300) (hr : rightSt pc xs.length 0 = true) (hc : InsS w cv l) (hll : l.length ≤ 300) (hW : W32 xs) (hi' : nextP l pc xs.length = some ⟨14, a, b, c⟩) :
    Calls Tryd.prog 17 #[cv, .agg #[.int .i64 pc, .slice (some ad) xs.length cap, .int .i64 0]] w fun e w' => StPost w ((pc : Int) + 1, wx xs a (truthP (gx xs b == 0)), 0) e w' := by
  obtain ⟨i0, hi, hz0, hz1, hz2⟩ := info_parts info21
  have hlen : (xs.map (Value.int .i32)).length = xs.length * 1 := by simp
  have hml : 0 + xs.length ≤ maxLen := by unfold maxLen; omega
  have hby : (0 + xs.length) * 4 ≤ 140737488355328 := by omega
  obtain ⟨hri, hpc⟩ := nextP_right hi'
  simp only [Int.toNat_natCast] at hri hpc
  have hx0 : 0 < xs.length := by have := (rightSt_iff.1 hr).1; omega
  obtain ⟨ha0, ha1, hb0, hb1⟩ := right_ww (by simp) hri
  obtain ⟨a, rfl⟩ := Int.eq_ofNat_of_zero_le ha0
  obtain ⟨b, rfl⟩ := Int.eq_ofNat_of_zero_le hb0
  obtain ⟨mb, mo, rfl, lm, hk⟩ := h.look hx0
  have Hk := Lib.hid hk
  have Hn := Lib.hid h
  have Hr := Lib.hid hr
  have Hri := Lib.hid hri
  have Hc := Lib.hid hc
  have Hi := Lib.hid hi'
  have pc0 : (pc : Int) ≤ 300 := by omega
  clear h hr hc hi' hri hk
  go_enter Tryd.func17, Tryd.ntmps17
  go_upto_region 1 with (fail)
  go_cut [5] (fun v5 wc => ∃ pb g cap', v5 = .pointer (some ⟨pb, 0, none⟩) ∧ Head w wc pb g cap' pc (.slice (some ⟨mb, mo, none⟩) xs.length cap) xs 0)
  case first =>
    refine wp_region_held_drew (S := fun w' => w'.cell? ⟨w.heap.size, 0, none⟩ = some (.int .i64 pc) ∧ w'.cell? ⟨w.heap.size, 1, none⟩ = some (.slice (some ⟨mb, mo, none⟩) xs.length cap) ∧ w'.cell? ⟨w.heap.size, 2, none⟩ = some (.int .i64 0)) (by kernel_rfl) (by refine ⟨?_, ?_, ?_⟩ <;> go_simp) (fun hHeld => ?_)
    refine hd_take (i := 0) (some 9) (v := ?v0) rfl rfl (by kernel_rfl) (by kernel_rfl) (by kernel_rfl) (fun _ _ _ h => h) (by rfl) ?h0 (by assumption) ?r0
    case h0 =>
      intro w hSw
      (try dsimp only at hSw)
      go_simp
      (try with_reducible rfl)
    try simp only [Act.put, List.setIfInBounds_toArray, List.set_cons_zero, List.set_cons_succ]
    refine hd_take (i := 1) (some 10) (v := ?v1) rfl rfl (by kernel_rfl) (by kernel_rfl) (by kernel_rfl) (fun _ _ _ h => h) (by rfl) ?h1 (by assumption) ?r1
    case h1 =>
      intro w hSw
      (try dsimp only at hSw)
      go_simp
      (try with_reducible rfl)
    try simp only [Act.put, List.setIfInBounds_toArray, List.set_cons_zero, List.set_cons_succ]
    refine hd_take (i := 3) (some 12) (v := ?v3) rfl rfl (by kernel_rfl) (by kernel_rfl) (by kernel_rfl) (fun _ _ _ h => h) (by rfl) ?h3 (by assumption) ?r3
    case h3 =>
      intro w hSw
      (try dsimp only at hSw)
      go_simp
      (try with_reducible rfl)
    try simp only [Act.put, List.setIfInBounds_toArray, List.set_cons_zero, List.set_cons_succ]
    refine hd_take (i := 4) (some 13) (v := ?v4) rfl rfl (by kernel_rfl) (by kernel_rfl) (by kernel_rfl) (fun _ _ _ h => h) (by rfl) ?h4 (by assumption) ?r4
    case h4 =>
      intro w hSw
      (try dsimp only at hSw)
      go_simp
      (try with_reducible rfl)
    try simp only [Act.put, List.setIfInBounds_toArray, List.set_cons_zero, List.set_cons_succ]
    refine hd_take (i := 6) (some 15) (v := ?v6) rfl rfl (by kernel_rfl) (by kernel_rfl) (by kernel_rfl) (fun _ _ _ h => h) (by rfl) ?h6 (by assumption) ?r6
    case h6 =>
      intro w hSw
      (try dsimp only at hSw)
      go_simp
      (try with_reducible rfl)
    try simp only [Act.put, List.setIfInBounds_toArray, List.set_cons_zero, List.set_cons_succ]
    refine hd_take (i := 7) (some 16) (v := ?v7) rfl rfl (by kernel_rfl) (by kernel_rfl) (by kernel_rfl) (fun _ _ _ h => h) (by rfl) ?h7 (by assumption) ?r7
    case h7 =>
      intro w hSw
      (try dsimp only at hSw)
      go_simp
      (try with_reducible rfl)
    try simp only [Act.put, List.setIfInBounds_toArray, List.set_cons_zero, List.set_cons_succ]
    refine wpAnyH_ready (rs := [2, 9]) (by kernel_rfl) (by simp) ?_
    refine AllReadyH.cons rfl (fun K hK => ?_) (AllReadyH.cons rfl (fun K hK => ?_) AllReadyH.nil)
    · go_simp
      refine hK.out _ _ (by refine ⟨?_, ?_, ?_⟩ <;> go_simp) (fun hH2 => ?_)
      clear hK K
      refine wpAnyH_ready (rs := [5, 9]) (by kernel_rfl) (by simp) ?_
      refine AllReadyH.cons rfl (fun K hK => ?_) (AllReadyH.cons rfl (fun K hK => ?_) AllReadyH.nil)
      · refine step_append_made _ (by rfl) _ _ _ (by rfl) (w.heap.size + 2) 21 i0 _ 1 4 Tryd.underlying23 hi hz0 hz1 hz2 rfl (by omega) ⟨w.heap.size + 2, 0, none⟩ 0 0 [] (by rfl) (by first | exact ownsRow_empty _ _ (by simp) (by omega) | exact ownsRow_empty2 _ _ _ (by simp) (by omega)) ⟨mb, mo, none⟩ xs.length cap (xs.map (Value.int .i32)) (by rfl) hlen (Hn.out.news' (by repeat (first | exact Below.refl _ _ | exact Nat.le_refl _ | apply Below.drew | (refine Below.alloc ?_ (by simp <;> omega) _)))) (one_i32 xs) hml hby (by simp <;> omega) ?_
        intro g cap' w1 hown hgrow
        refine hK.out _ _ (by refine ⟨?_, ?_, ?_⟩ <;> (rw [hgrow.cell_far _ (by simp <;> omega) (by simp <;> omega)]; go_simp)) (fun hH5 => ?_)
        clear hK K
        try simp only [Act.put, List.setIfInBounds_toArray, List.set_cons_zero, List.set_cons_succ]
        rw [Nat.zero_add, List.nil_append] at hown
        rw [Nat.zero_add]
        have hs1 := hgrow.size
        simp at hs1
        refine hd_take (i := 8) (some 17) (v := ?v8x1) rfl rfl (by kernel_rfl) (by kernel_rfl) (by kernel_rfl) (fun _ _ _ h => h) (by rfl) ?h8x1 (by assumption) ?r8x1
        case h8x1 =>
          intro w hSw
          (try dsimp only at hSw)
          go_simp
          (try with_reducible rfl)
        try simp only [Act.put, List.setIfInBounds_toArray, List.set_cons_zero, List.set_cons_succ]
        refine wpAnyH_ready (rs := [9]) (by kernel_rfl) (by simp) ?_
        refine AllReadyH.cons rfl (fun K hK => ?_) AllReadyH.nil
        go_simp
        refine hK.out _ _ (by refine ⟨?_, ?_, ?_⟩ <;> (rw [World.cell?_alloc_past _ _ _ (by omega)]; first | exact hH5.1 | exact hH5.2.1 | exact hH5.2.2)) (fun hH9 => ?_)
        clear hK K
        refine wpAnyH_ready (rs := [10]) (by kernel_rfl) (by simp) ?_
        refine AllReadyH.cons rfl (fun K hK => ?_) AllReadyH.nil
        go_simp
        refine hK.out _ _ (by refine ⟨?_, ?_, ?_⟩ <;> (rw [World.cell?_alloc_past _ _ _ (by omega)]; first | exact hH5.1 | exact hH5.2.1 | exact hH5.2.2)) (fun hH10 => ?_)
        clear hK K
        refine wpAnyH_done (by kernel_rfl) ?_ _
        go_wp2_with fail
        go_meet
        case rel => exact ⟨_, g, cap', rfl, head_new w _ w1 g cap' pc (.slice (some ⟨mb, mo, none⟩) xs.length cap) xs 0 hown hgrow (by repeat (first | exact Below.refl _ _ | exact Nat.le_refl _ | apply Below.drew | (refine Below.alloc ?_ (by simp <;> omega) _))) (by simp <;> omega) (by simp <;> omega) (fun i => by go_simp) (fun i => by go_simp) (fun i => by go_simp)⟩
      · go_simp
        refine hK.out _ _ (by refine ⟨?_, ?_, ?_⟩ <;> go_simp) (fun hH9 => ?_)
        clear hK K
        refine wpAnyH_ready (rs := [5]) (by kernel_rfl) (by simp) ?_
        refine AllReadyH.cons rfl (fun K hK => ?_) AllReadyH.nil
        refine step_append_made _ (by rfl) _ _ _ (by rfl) (w.heap.size + 2) 21 i0 _ 1 4 Tryd.underlying23 hi hz0 hz1 hz2 rfl (by omega) ⟨w.heap.size + 2, 0, none⟩ 0 0 [] (by rfl) (by first | exact ownsRow_empty _ _ (by simp) (by omega) | exact ownsRow_empty2 _ _ _ (by simp) (by omega)) ⟨mb, mo, none⟩ xs.length cap (xs.map (Value.int .i32)) (by rfl) hlen (Hn.out.news' (by repeat (first | exact Below.refl _ _ | exact Nat.le_refl _ | apply Below.drew | (refine Below.alloc ?_ (by simp <;> omega) _)))) (one_i32 xs) hml hby (by simp <;> omega) ?_
        intro g cap' w1 hown hgrow
        refine hK.out _ _ (by refine ⟨?_, ?_, ?_⟩ <;> (rw [hgrow.cell_far _ (by simp <;> omega) (by simp <;> omega)]; go_simp)) (fun hH5 => ?_)
        clear hK K
        try simp only [Act.put, List.setIfInBounds_toArray, List.set_cons_zero, List.set_cons_succ]
        rw [Nat.zero_add, List.nil_append] at hown
        rw [Nat.zero_add]
        have hs1 := hgrow.size
        simp at hs1
        have o0 : ∀ i, w1.cell? ⟨w.heap.size + 3, i, none⟩ = #[Value.int .i64 0, .slice none 0 0, .int .i64 0][i]? := fun i => (hgrow.cell_far _ (by simp <;> omega) (by simp <;> omega)).trans (by go_simp)
        have of : ∀ i, w1.frozen? ⟨w.heap.size + 3, i, none⟩ = false := fun i => (hgrow.frozen_far _ (by simp <;> omega) (by simp <;> omega)).trans (by go_simp)
        refine hd_take (i := 8) (some 17) (v := ?v8x2) rfl rfl (by kernel_rfl) (by kernel_rfl) (by kernel_rfl) (fun _ _ _ h => h) (by rfl) ?h8x2 (by assumption) ?r8x2
        case h8x2 =>
          intro w hSw
          (try dsimp only at hSw)
          go_simp
          (try with_reducible rfl)
        try simp only [Act.put, List.setIfInBounds_toArray, List.set_cons_zero, List.set_cons_succ]
        refine wpAnyH_ready (rs := [10]) (by kernel_rfl) (by simp) ?_
        refine AllReadyH.cons rfl (fun K hK => ?_) AllReadyH.nil
        go_simp
        refine hK.out _ _ (by refine ⟨?_, ?_, ?_⟩ <;> (rw [World.cell?_setCell_far _ _ _ _ (by simp <;> omega), World.cell?_setCell_far _ _ _ _ (by simp <;> omega), World.cell?_setCell_far _ _ _ _ (by simp <;> omega)]; first | exact hH5.1 | exact hH5.2.1 | exact hH5.2.2)) (fun hH10 => ?_)
        clear hK K
        refine wpAnyH_done (by kernel_rfl) ?_ _
        go_wp2_with fail
        go_meet
        case rel => exact ⟨_, g, cap', rfl, head_old w _ w1 _ _ g cap' pc (.slice (some ⟨mb, mo, none⟩) xs.length cap) xs 0 hown hgrow (by repeat (first | exact Below.refl _ _ | exact Nat.le_refl _ | apply Below.drew | (refine Below.alloc ?_ (by simp <;> omega) _))) (by simp <;> omega) (by simp <;> omega) (by simp <;> omega) (by simp <;> omega) (by simp <;> omega) (fun i => by go_simp) (fun i => by go_simp) (fun i => by go_simp) (by first | exact heap_at1 _ _ _ (by simp) | exact heap_at2 _ _ _ _ (by simp))⟩
    · go_simp
      refine hK.out _ _ (by refine ⟨?_, ?_, ?_⟩ <;> go_simp) (fun hH9 => ?_)
      clear hK K
      refine wpAnyH_ready (rs := [2]) (by kernel_rfl) (by simp) ?_
      refine AllReadyH.cons rfl (fun K hK => ?_) AllReadyH.nil
      go_simp
      refine hK.out _ _ (by refine ⟨?_, ?_, ?_⟩ <;> go_simp) (fun hH2 => ?_)
      clear hK K
      refine wpAnyH_ready (rs := [5]) (by kernel_rfl) (by simp) ?_
      refine AllReadyH.cons rfl (fun K hK => ?_) AllReadyH.nil
      refine step_append_made _ (by rfl) _ _ _ (by rfl) (w.heap.size + 2) 21 i0 _ 1 4 Tryd.underlying23 hi hz0 hz1 hz2 rfl (by omega) ⟨w.heap.size + 3, 0, none⟩ 0 0 [] (by rfl) (by first | exact ownsRow_empty _ _ (by simp) (by omega) | exact ownsRow_empty2 _ _ _ (by simp) (by omega)) ⟨mb, mo, none⟩ xs.length cap (xs.map (Value.int .i32)) (by rfl) hlen (Hn.out.news' (by repeat (first | exact Below.refl _ _ | exact Nat.le_refl _ | apply Below.drew | (refine Below.alloc ?_ (by simp <;> omega) _)))) (one_i32 xs) hml hby (by simp <;> omega) ?_
      intro g cap' w1 hown hgrow
      refine hK.out _ _ (by refine ⟨?_, ?_, ?_⟩ <;> (rw [hgrow.cell_far _ (by simp <;> omega) (by simp <;> omega)]; go_simp)) (fun hH5 => ?_)
      clear hK K
      try simp only [Act.put, List.setIfInBounds_toArray, List.set_cons_zero, List.set_cons_succ]
      rw [Nat.zero_add, List.nil_append] at hown
      rw [Nat.zero_add]
      have hs1 := hgrow.size
      simp at hs1
      have o0 : ∀ i, w1.cell? ⟨w.heap.size + 2, i, none⟩ = #[Value.int .i64 0, .slice none 0 0, .int .i64 0][i]? := fun i => (hgrow.cell_far _ (by simp <;> omega) (by simp <;> omega)).trans (by go_simp)
      have of : ∀ i, w1.frozen? ⟨w.heap.size + 2, i, none⟩ = false := fun i => (hgrow.frozen_far _ (by simp <;> omega) (by simp <;> omega)).trans (by go_simp)
      refine hd_take (i := 8) (some 17) (v := ?v8x3) rfl rfl (by kernel_rfl) (by kernel_rfl) (by kernel_rfl) (fun _ _ _ h => h) (by rfl) ?h8x3 (by assumption) ?r8x3
      case h8x3 =>
        intro w hSw
        (try dsimp only at hSw)
        go_simp
        (try with_reducible rfl)
      try simp only [Act.put, List.setIfInBounds_toArray, List.set_cons_zero, List.set_cons_succ]
      refine wpAnyH_ready (rs := [10]) (by kernel_rfl) (by simp) ?_
      refine AllReadyH.cons rfl (fun K hK => ?_) AllReadyH.nil
      go_simp
      refine hK.out _ _ (by refine ⟨?_, ?_, ?_⟩ <;> (rw [World.cell?_setCell_far _ _ _ _ (by simp <;> omega), World.cell?_setCell_far _ _ _ _ (by simp <;> omega), World.cell?_setCell_far _ _ _ _ (by simp <;> omega)]; first | exact hH5.1 | exact hH5.2.1 | exact hH5.2.2)) (fun hH10 => ?_)
      clear hK K
      refine wpAnyH_done (by kernel_rfl) ?_ _
      go_wp2_with fail
      go_meet
      case rel => exact ⟨_, g, cap', rfl, head_old w _ w1 _ _ g cap' pc (.slice (some ⟨mb, mo, none⟩) xs.length cap) xs 0 hown hgrow (by repeat (first | exact Below.refl _ _ | exact Nat.le_refl _ | apply Below.drew | (refine Below.alloc ?_ (by simp <;> omega) _))) (by simp <;> omega) (by simp <;> omega) (by simp <;> omega) (by simp <;> omega) (by simp <;> omega) (fun i => by go_simp) (fun i => by go_simp) (fun i => by go_simp) (by first | exact heap_at1 _ _ _ (by simp) | exact heap_at2 _ _ _ _ (by simp))⟩
  case rest =>
    obtain ⟨pb, g, cap', rfl, hH⟩ := hcut
    have HH := Lib.hid hH
    have bx := hH.box
    clear hH
    go_wp2_with fail
    refine (rright_any pc 0 _ _ _ _).mono ?_
    rintro e w1 ⟨rfl, hb1⟩
    have hs0 := HH.out.below.size
    have hpb := HH.out.lpb
    have hlp := HH.out.lp
    have bx1 : ∀ i, w1.cell? ⟨w.heap.size, i, none⟩ = #[Value.int .i64 pc, .slice (some ⟨mb, mo, none⟩) xs.length cap, .int .i64 0][i]? := fun i => (hb1.cell (p := ⟨w.heap.size, i, none⟩) (by show w.heap.size < _; omega)).trans (bx i)
    have HB1 := Lib.hid hb1
    clear bx hb1
    rw [Hr.out]
    go_wp2_with fail
    refine (rnext_yes pc _ _ _ l cv _ _ Hr.out ((Hc.out.below HH.out.below (Nat.le_refl _)).below HB1.out (Nat.le_refl _)) hll Hi.out).mono ?_
    rintro e w2 ⟨rfl, hb2⟩
    have hs1 := HB1.out.size
    have hs2 := hb2.size
    have HM2 : Hid (MSt w2 pb g cap' pc xs 0) := Lib.hid ((HH.out.st.below hx0 HB1.out).below hx0 hb2)
    have HB2 : Hid (Below w.heap.size w w2) := Lib.hid ((HH.out.below.trans (HB1.out.mono (by omega))).trans (hb2.mono (by omega)))
    have bx2 : ∀ i, w2.cell? ⟨w.heap.size, i, none⟩ = #[Value.int .i64 pc, .slice (some ⟨mb, mo, none⟩) xs.length cap, .int .i64 0][i]? := fun i => (hb2.cell (p := ⟨w.heap.size, i, none⟩) (by show w.heap.size < _; omega)).trans (bx1 i)
    have rs2 : ∀ i, w2.cell? ⟨w.heap.size + 1, i, none⟩ = #[Value.int .i64 0, .slice none 0 0, .int .i64 0][i]? := fun i => (hb2.cell (p := ⟨w.heap.size + 1, i, none⟩) (by show w.heap.size + 1 < _; omega)).trans ((HB1.out.cell (p := ⟨w.heap.size + 1, i, none⟩) (by show w.heap.size + 1 < _; omega)).trans (HH.out.res i))
    have fr2 : ∀ i, w2.frozen? ⟨w.heap.size + 1, i, none⟩ = false := fun i => (hb2.frozen (p := ⟨w.heap.size + 1, i, none⟩) (by show w.heap.size + 1 < _; omega)).trans ((HB1.out.frozen (p := ⟨w.heap.size + 1, i, none⟩) (by show w.heap.size + 1 < _; omega)).trans (HH.out.fres i))
    have mem2 : Hid (∀ k x, xs[k]? = some x → w2.cell? ⟨mb, mo + k, none⟩ = some (.int .i32 x)) := Lib.hid fun k x hx => (HB2.out.cell (p := ⟨mb, mo + k, none⟩) lm).trans (Hk.out k x hx)
    have lr2 : w.heap.size + 1 < w2.heap.size := by omega
    have lb2 : w.heap.size < w2.heap.size := by omega
    have lp2 : pb < w2.heap.size := by omega
    have lg2 : g < w2.heap.size := by have := HH.out.lgb; omega
    have lm2 : mb < w2.heap.size := by omega
    have hlw := lm
    have hpg := HH.out.st.ne
    have hlg := HH.out.lg
    have hlp' := HH.out.lp
    have q0 := HM2.out.st.c0
    have q1 := HM2.out.st.c1
    have q2 := HM2.out.st.c2
    have zp := HM2.out.fp
    have zg := HM2.out.fm
    clear bx1 hb2 hs0 hs1 hs2 hpb hlp
    go_upto_region 12 with (fail)
    obtain ⟨W, hW⟩ : ∃ W, W = (w2.setCell ⟨pb, 0, none⟩ (.int .i64 ((pc : Int) + 1))).alloc (.cells #[.int .i64 14, .int .i64 a, .int .i64 b, .int .i64 c] 58) := ⟨_, rfl⟩
    rw [← hW]
    obtain ⟨HM, HB, bxW, rsW, frW, memW, inW, szW⟩ := rdy HM2.out HB2.out hx0 bx2 rs2 fr2 mem2.out lm HH.out.lp lp2 lg2 hW
    replace HM := Lib.hid HM
    replace HB := Lib.hid HB
    replace memW := Lib.hid memW
    clear hW bx2 rs2 fr2 mem2 HM2 HB2 q0 q1 q2 zp zg
    have q0 := HM.out.st.c0
    have q1 := HM.out.st.c1
    have q2 := HM.out.st.c2
    have zp := HM.out.fp
    have zg := HM.out.fm
    generalize w2.heap.size = ib at *
    have lgW : g < W.heap.size := by omega
    have hbp : ¬ w.heap.size = pb := by omega
    have hbg : ¬ w.heap.size = g := by omega
    have hrp : ¬ w.heap.size + 1 = pb := by omega
    have hrg : ¬ w.heap.size + 1 = g := by omega
    have hig : ¬ ib = g := by omega
    have hip : ¬ ib = pb := by omega
    have hmp : ¬ mb = pb := by omega
    have hmg : ¬ mb = g := by omega
    have rdb := memW.out b _ (gx_at (show b < xs.length by omega))
    have lb : (b : Int) < (xs.length : Int) := by omega
    obtain ⟨xa, ga⟩ : ∃ xa, W.cell? ⟨g, a, none⟩ = some xa := ⟨_, HM.out.cells a _ (gx_at (show a < xs.length by omega))⟩
    have lda : (a : Int) < (xs.length : Int) := by omega
    go_wp2_with fail
    go_still_tail 12, (by kernel_rfl)
    still_call ((rtruth_any _ _).mono (by rintro e w' ⟨rfl, rfl⟩; exact ⟨rfl, rfl⟩))
    repeat still_step
    try refine wpStill_nil ?_
    go_wp2
    refine bodyPost_ret (v := .agg #[.int .i64 ((pc : Int) + 1), .slice (some ⟨g, 0, none⟩) xs.length cap', .int .i64 (0)]) (by simp [results, Tryd.results17, go_sem, *]) rfl ?_
    refine StPost.drew ?_
    exact fin (HM.out.setMem (a := a) (by omega) (truthP (gx xs b == 0))) (HB.out.setCell (by show w.heap.size ≤ g; omega) _) HH.out.lk hx0 (wx_len _ _ _) hlg
end Go.Proofs.YteecpkkgjioplaaDoor

/- The document's step behind Place: what is known of the world. -/
namespace Go.Proofs.YteecpkkgjioplaaDoor
open Go.RowKit Go

structure Rdy (w V : World) (ib pb g cap' : Nat) (pw : Int) (pc mb mo cap : Nat) (xs : List Int) (o a b c : Int) : Prop where
  st : MSt V pb g cap' pw xs 0
  below : Below w.heap.size w V
  box : ∀ i, V.cell? ⟨w.heap.size, i, none⟩ = #[Value.int .i64 pc, .slice (some ⟨mb, mo, none⟩) xs.length cap, .int .i64 0][i]?
  res : ∀ i, V.cell? ⟨w.heap.size + 1, i, none⟩ = #[Value.int .i64 0, .slice none 0 0, .int .i64 0][i]?
  fres : ∀ i, V.frozen? ⟨w.heap.size + 1, i, none⟩ = false
  mem : ∀ k x, xs[k]? = some x → V.cell? ⟨mb, mo + k, none⟩ = some (.int .i32 x)
  ins : ∀ i, V.cell? ⟨ib, i, none⟩ = #[Value.int .i64 o, .int .i64 a, .int .i64 b, .int .i64 c][i]?
  lm : mb < w.heap.size
  lp : w.heap.size + 2 ≤ pb
  lg : w.heap.size + 2 ≤ g
  li : w.heap.size + 2 ≤ ib
  lib : ib < V.heap.size
  lpb : pb < V.heap.size
  lgb : g < V.heap.size
  hip : ib ≠ pb
theorem Rdy.to {w V V' : World} {ib pb g cap' pc mb mo cap : Nat} {pw : Int} {xs : List Int} {o a b c : Int} (h : Rdy w V ib pb g cap' pw pc mb mo cap xs o a b c) (hx : 0 < xs.length) (hb : Below V.heap.size V V') : Rdy w V' ib pb g cap' pw pc mb mo cap xs o a b c := by
  have hs := h.below.size
  have hlp := h.lpb
  have hlp' := h.lp
  have hli := h.lib
  have hlm := h.lm
  have hs' := hb.size
  have hlgb := h.lgb
  exact ⟨h.st.below hx hb, h.below.trans (hb.mono hs), fun i => (hb.cell (p := ⟨w.heap.size, i, none⟩) (by show w.heap.size < _; omega)).trans (h.box i), fun i => (hb.cell (p := ⟨w.heap.size + 1, i, none⟩) (by show w.heap.size + 1 < _; omega)).trans (h.res i), fun i => (hb.frozen (p := ⟨w.heap.size + 1, i, none⟩) (by show w.heap.size + 1 < _; omega)).trans (h.fres i), fun k x hk => (hb.cell (p := ⟨mb, mo + k, none⟩) (by show mb < _; omega)).trans (h.mem k x hk), fun i => (hb.cell (p := ⟨ib, i, none⟩) hli).trans (h.ins i), h.lm, h.lp, h.lg, h.li, by omega, by omega, by omega, h.hip⟩
theorem Rdy.setPc {w V : World} {ib pb g cap' pc mb mo cap : Nat} {pw : Int} {xs : List Int} {o a b c : Int} (h : Rdy w V ib pb g cap' pw pc mb mo cap xs o a b c) (q : Int) : Rdy w (V.setCell ⟨pb, 0, none⟩ (.int .i64 q)) ib pb g cap' q pc mb mo cap xs o a b c := by
  have hlp := h.lp
  have hlm := h.lm
  have hip := h.hip
  refine ⟨h.st.setPc q, h.below.setCell (by show w.heap.size ≤ pb; omega) _, fun i => ?_, fun i => ?_, fun i => ?_, fun k x hk => ?_, fun i => ?_, h.lm, h.lp, h.lg, h.li, by simpa using h.lib, by simpa using h.lpb, by simpa using h.lgb, h.hip⟩
  · rw [cell_set_off (by omega)]; exact h.box i
  · rw [cell_set_off (by omega)]; exact h.res i
  · simpa using h.fres i
  · rw [cell_set_off (by omega)]; exact h.mem k x hk
  · rw [cell_set_off (by omega)]; exact h.ins i
theorem Rdy.mk0 {w w2 : World} {pb g cap' pc mb mo cap : Nat} {xs : List Int} {o a b c : Int} (HM : MSt w2 pb g cap' pc xs 0) (HB : Below w.heap.size w w2) (hx : 0 < xs.length)
    (bx : ∀ i, w2.cell? ⟨w.heap.size, i, none⟩ = #[Value.int .i64 pc, .slice (some ⟨mb, mo, none⟩) xs.length cap, .int .i64 0][i]?) (rs : ∀ i, w2.cell? ⟨w.heap.size + 1, i, none⟩ = #[Value.int .i64 0, .slice none 0 0, .int .i64 0][i]?)
    (fr : ∀ i, w2.frozen? ⟨w.heap.size + 1, i, none⟩ = false) (mem : ∀ k x, xs[k]? = some x → w2.cell? ⟨mb, mo + k, none⟩ = some (.int .i32 x)) (lm : mb < w.heap.size) (lp : w.heap.size + 2 ≤ pb) (lg : w.heap.size + 2 ≤ g) (lpb : pb < w2.heap.size) (lgb : g < w2.heap.size) :
    Rdy w (w2.alloc (.cells #[.int .i64 o, .int .i64 a, .int .i64 b, .int .i64 c] 58)) w2.heap.size pb g cap' pc pc mb mo cap xs o a b c := by
  have hbl : Below w2.heap.size w2 (w2.alloc (.cells #[.int .i64 o, .int .i64 a, .int .i64 b, .int .i64 c] 58)) := below_alloc1 _ _
  have hsz := HB.size
  exact ⟨HM.below hx hbl, HB.trans (hbl.mono hsz), fun i => (hbl.cell (p := ⟨w.heap.size, i, none⟩) (by show w.heap.size < _; omega)).trans (bx i), fun i => (hbl.cell (p := ⟨w.heap.size + 1, i, none⟩) (by show w.heap.size + 1 < _; omega)).trans (rs i), fun i => (hbl.frozen (p := ⟨w.heap.size + 1, i, none⟩) (by show w.heap.size + 1 < _; omega)).trans (fr i), fun k x hk => (hbl.cell (p := ⟨mb, mo + k, none⟩) (by show mb < _; omega)).trans (mem k x hk), alloc_at w2 _ _, lm, lp, lg, by omega, by simp, by simp; omega, by simp; omega, by omega⟩
end Go.Proofs.YteecpkkgjioplaaDoor
