/- Texts of the proof, part 4 of 7. -/
import Derived.StillTailTactics
import Derived.Test.YteecpkkgjioplaaDoorZsb
import Derived.Test.YteecpkkgjioplaaDoorZsc

/- baizeref15.Step: rstep_15 -/
namespace Go.Proofs.YteecpkkgjioplaaDoor
open Go.RowKit Go

set_option linter.unusedSimpArgs false in
set_option linter.unusedVariables false in
set_option maxRecDepth 100000 in
set_option maxHeartbeats 4000000 in
theorem rstep_15 (pc : Nat) (ad : Addr) (cap : Nat) (xs : List Int) (cv : Value) (l : List Ins) (a b c : Int) (w : World) (h : I32s w (.slice (some ad) xs.length cap) xs) (hl : xs.length ≤ 300) (hr : rightSt pc xs.length 0 = true) (hc : InsS w cv l) (hll : l.length ≤ 300) (hW : W32 xs) (hi' : nextP l pc xs.length = some ⟨15, a, b, c⟩) (f : Nat) (hff : farI ⟨15, a, b, c⟩ xs = f) (hfl : f < xs.length) :
    Calls Tryd.prog 17 #[cv, .agg #[.int .i64 pc, .slice (some ad) xs.length cap, .int .i64 0]] w fun e w' => StPost w ((pc : Int) + 1, wx xs a (gx xs f), 0) e w' := by
  obtain ⟨i0, hi, hz0, hz1, hz2⟩ := info_parts info21
  have hlen : (xs.map (Value.int .i32)).length = xs.length * 1 := by simp
  have hml : 0 + xs.length ≤ maxLen := by unfold maxLen; omega
  have hby : (0 + xs.length) * 4 ≤ 140737488355328 := by omega
  obtain ⟨hri, hpc⟩ := nextP_right hi'
  simp only [Int.toNat_natCast] at hri hpc
  have hx0 : 0 < xs.length := by have := (rightSt_iff.1 hr).1; omega
  obtain ⟨ha0, ha1, hb0, hb1, hc0, hc1⟩ := right_www (by simp) hri
  obtain ⟨a, rfl⟩ := Int.eq_ofNat_of_zero_le ha0
  obtain ⟨b, rfl⟩ := Int.eq_ofNat_of_zero_le hb0
  obtain ⟨c, rfl⟩ := Int.eq_ofNat_of_zero_le hc0
  have HF := Lib.hid hff
  clear hff
  obtain ⟨mb, mo, rfl, lm, hk⟩ := h.look hx0
  have Hk := Lib.hid hk
  have Hn := Lib.hid h
  have Hr := Lib.hid hr
  have Hri := Lib.hid hri
  have Hc := Lib.hid hc
  have Hi := Lib.hid hi'
  have pc0 : (pc : Int) ≤ 300 := by omega
  clear h hr hc hi' hri hk
  go_enter Tryd.func17, Tryd.ntmps17
  go_upto_region 1 with (fail)
  go_cut [5] (fun v5 wc => ∃ pb g cap', v5 = .pointer (some ⟨pb, 0, none⟩) ∧ Head w wc pb g cap' pc (.slice (some ⟨mb, mo, none⟩) xs.length cap) xs 0)
  case first =>
    refine wp_region_held_drew (S := fun w' => w'.cell? ⟨w.heap.size, 0, none⟩ = some (.int .i64 pc) ∧ w'.cell? ⟨w.heap.size, 1, none⟩ = some (.slice (some ⟨mb, mo, none⟩) xs.length cap) ∧ w'.cell? ⟨w.heap.size, 2, none⟩ = some (.int .i64 0)) (by kernel_rfl) (by refine ⟨?_, ?_, ?_⟩ <;> go_simp) (fun hHeld => ?_)
    refine hd_take (i := 0) (some 9) (v := ?v0) rfl rfl (by kernel_rfl) (by kernel_rfl) (by kernel_rfl) (fun _ _ _ h => h) (by rfl) ?h0 (by assumption) ?r0
    case h0 =>
      intro w hSw
      (try dsimp only at hSw)
      go_simp
      (try with_reducible rfl)
    try simp only [Act.put, List.setIfInBounds_toArray, List.set_cons_zero, List.set_cons_succ]
    refine hd_take (i := 1) (some 10) (v := ?v1) rfl rfl (by kernel_rfl) (by kernel_rfl) (by kernel_rfl) (fun _ _ _ h => h) (by rfl) ?h1 (by assumption) ?r1
    case h1 =>
      intro w hSw
      (try dsimp only at hSw)
      go_simp
      (try with_reducible rfl)
    try simp only [Act.put, List.setIfInBounds_toArray, List.set_cons_zero, List.set_cons_succ]
    refine hd_take (i := 3) (some 12) (v := ?v3) rfl rfl (by kernel_rfl) (by kernel_rfl) (by kernel_rfl) (fun _ _ _ h => h) (by rfl) ?h3 (by assumption) ?r3
    case h3 =>
      intro w hSw
      (try dsimp only at hSw)
      go_simp
      (try with_reducible rfl)
    try simp only [Act.put, List.setIfInBounds_toArray, List.set_cons_zero, List.set_cons_succ]
    refine hd_take (i := 4) (some 13) (v := ?v4) rfl rfl (by kernel_rfl) (by kernel_rfl) (by kernel_rfl) (fun _ _ _ h => h) (by rfl) ?h4 (by assumption) ?r4
    case h4 =>
      intro w hSw
      (try dsimp only at hSw)
      go_simp
      (try with_reducible rfl)
    try simp only [Act.put, List.setIfInBounds_toArray, List.set_cons_zero, List.set_cons_succ]
    refine hd_take (i := 6) (some 15) (v := ?v6) rfl rfl (by kernel_rfl) (by kernel_rfl) (by kernel_rfl) (fun _ _ _ h => h) (by rfl) ?h6 (by assumption) ?r6
    case h6 =>
      intro w hSw
      (try dsimp only at hSw)
      go_simp
      (try with_reducible rfl)
    try simp only [Act.put, List.setIfInBounds_toArray, List.set_cons_zero, List.set_cons_succ]
    refine hd_take (i := 7) (some 16) (v := ?v7) rfl rfl (by kernel_rfl) (by kernel_rfl) (by kernel_rfl) (fun _ _ _ h => h) (by rfl) ?h7 (by assumption) ?r7
    case h7 =>
      intro w hSw
      (try dsimp only at hSw)
      go_simp
      (try with_reducible rfl)
    try simp only [Act.put, List.setIfInBounds_toArray, List.set_cons_zero, List.set_cons_succ]
    refine wpAnyH_ready (rs := [2, 9]) (by kernel_rfl) (by simp) ?_
    refine AllReadyH.cons rfl (fun K hK => ?_) (AllReadyH.cons rfl (fun K hK => ?_) AllReadyH.nil)
    · go_simp
      refine hK.out _ _ (by refine ⟨?_, ?_, ?_⟩ <;> go_simp) (fun hH2 => ?_)
      clear hK K
      refine wpAnyH_ready (rs := [5, 9]) (by kernel_rfl) (by simp) ?_
      refine AllReadyH.cons rfl (fun K hK => ?_) (AllReadyH.cons rfl (fun K hK => ?_) AllReadyH.nil)
      · refine step_append_made _ (by rfl) _ _ _ (by rfl) (w.heap.size + 2) 21 i0 _ 1 4 Tryd.underlying23 hi hz0 hz1 hz2 rfl (by omega) ⟨w.heap.size + 2, 0, none⟩ 0 0 [] (by rfl) (by first | exact ownsRow_empty _ _ (by simp) (by omega) | exact ownsRow_empty2 _ _ _ (by simp) (by omega)) ⟨mb, mo, none⟩ xs.length cap (xs.map (Value.int .i32)) (by rfl) hlen (Hn.out.news' (by repeat (first | exact Below.refl _ _ | exact Nat.le_refl _ | apply Below.drew | (refine Below.alloc ?_ (by simp <;> omega) _)))) (one_i32 xs) hml hby (by simp <;> omega) ?_
        intro g cap' w1 hown hgrow
        refine hK.out _ _ (by refine ⟨?_, ?_, ?_⟩ <;> (rw [hgrow.cell_far _ (by simp <;> omega) (by simp <;> omega)]; go_simp)) (fun hH5 => ?_)
        clear hK K
        try simp only [Act.put, List.setIfInBounds_toArray, List.set_cons_zero, List.set_cons_succ]
        rw [Nat.zero_add, List.nil_append] at hown
        rw [Nat.zero_add]
        have hs1 := hgrow.size
        simp at hs1
        refine hd_take (i := 8) (some 17) (v := ?v8x1) rfl rfl (by kernel_rfl) (by kernel_rfl) (by kernel_rfl) (fun _ _ _ h => h) (by rfl) ?h8x1 (by assumption) ?r8x1
        case h8x1 =>
          intro w hSw
          (try dsimp only at hSw)
          go_simp
          (try with_reducible rfl)
        try simp only [Act.put, List.setIfInBounds_toArray, List.set_cons_zero, List.set_cons_succ]
        refine wpAnyH_ready (rs := [9]) (by kernel_rfl) (by simp) ?_
        refine AllReadyH.cons rfl (fun K hK => ?_) AllReadyH.nil
        go_simp
        refine hK.out _ _ (by refine ⟨?_, ?_, ?_⟩ <;> (rw [World.cell?_alloc_past _ _ _ (by omega)]; first | exact hH5.1 | exact hH5.2.1 | exact hH5.2.2)) (fun hH9 => ?_)
        clear hK K
        refine wpAnyH_ready (rs := [10]) (by kernel_rfl) (by simp) ?_
        refine AllReadyH.cons rfl (fun K hK => ?_) AllReadyH.nil
        go_simp
        refine hK.out _ _ (by refine ⟨?_, ?_, ?_⟩ <;> (rw [World.cell?_alloc_past _ _ _ (by omega)]; first | exact hH5.1 | exact hH5.2.1 | exact hH5.2.2)) (fun hH10 => ?_)
        clear hK K
        refine wpAnyH_done (by kernel_rfl) ?_ _
        go_wp2_with fail
        go_meet
        case rel => exact ⟨_, g, cap', rfl, head_new w _ w1 g cap' pc (.slice (some ⟨mb, mo, none⟩) xs.length cap) xs 0 hown hgrow (by repeat (first | exact Below.refl _ _ | exact Nat.le_refl _ | apply Below.drew | (refine Below.alloc ?_ (by simp <;> omega) _))) (by simp <;> omega) (by simp <;> omega) (fun i => by go_simp) (fun i => by go_simp) (fun i => by go_simp)⟩
      · go_simp
        refine hK.out _ _ (by refine ⟨?_, ?_, ?_⟩ <;> go_simp) (fun hH9 => ?_)
        clear hK K
        refine wpAnyH_ready (rs := [5]) (by kernel_rfl) (by simp) ?_
        refine AllReadyH.cons rfl (fun K hK => ?_) AllReadyH.nil
        refine step_append_made _ (by rfl) _ _ _ (by rfl) (w.heap.size + 2) 21 i0 _ 1 4 Tryd.underlying23 hi hz0 hz1 hz2 rfl (by omega) ⟨w.heap.size + 2, 0, none⟩ 0 0 [] (by rfl) (by first | exact ownsRow_empty _ _ (by simp) (by omega) | exact ownsRow_empty2 _ _ _ (by simp) (by omega)) ⟨mb, mo, none⟩ xs.length cap (xs.map (Value.int .i32)) (by rfl) hlen (Hn.out.news' (by repeat (first | exact Below.refl _ _ | exact Nat.le_refl _ | apply Below.drew | (refine Below.alloc ?_ (by simp <;> omega) _)))) (one_i32 xs) hml hby (by simp <;> omega) ?_
        intro g cap' w1 hown hgrow
        refine hK.out _ _ (by refine ⟨?_, ?_, ?_⟩ <;> (rw [hgrow.cell_far _ (by simp <;> omega) (by simp <;> omega)]; go_simp)) (fun hH5 => ?_)
        clear hK K
        try simp only [Act.put, List.setIfInBounds_toArray, List.set_cons_zero, List.set_cons_succ]
        rw [Nat.zero_add, List.nil_append] at hown
        rw [Nat.zero_add]
        have hs1 := hgrow.size
        simp at hs1
        have o0 : ∀ i, w1.cell? ⟨w.heap.size + 3, i, none⟩ = #[Value.int .i64 0, .slice none 0 0, .int .i64 0][i]? := fun i => (hgrow.cell_far _ (by simp <;> omega) (by simp <;> omega)).trans (by go_simp)
        have of : ∀ i, w1.frozen? ⟨w.heap.size + 3, i, none⟩ = false := fun i => (hgrow.frozen_far _ (by simp <;> omega) (by simp <;> omega)).trans (by go_simp)
        refine hd_take (i := 8) (some 17) (v := ?v8x2) rfl rfl (by kernel_rfl) (by kernel_rfl) (by kernel_rfl) (fun _ _ _ h => h) (by rfl) ?h8x2 (by assumption) ?r8x2
        case h8x2 =>
          intro w hSw
          (try dsimp only at hSw)
          go_simp
          (try with_reducible rfl)
        try simp only [Act.put, List.setIfInBounds_toArray, List.set_cons_zero, List.set_cons_succ]
        refine wpAnyH_ready (rs := [10]) (by kernel_rfl) (by simp) ?_
        refine AllReadyH.cons rfl (fun K hK => ?_) AllReadyH.nil
        go_simp
        refine hK.out _ _ (by refine ⟨?_, ?_, ?_⟩ <;> (rw [World.cell?_setCell_far _ _ _ _ (by simp <;> omega), World.cell?_setCell_far _ _ _ _ (by simp <;> omega), World.cell?_setCell_far _ _ _ _ (by simp <;> omega)]; first | exact hH5.1 | exact hH5.2.1 | exact hH5.2.2)) (fun hH10 => ?_)
        clear hK K
        refine wpAnyH_done (by kernel_rfl) ?_ _
        go_wp2_with fail
        go_meet
        case rel => exact ⟨_, g, cap', rfl, head_old w _ w1 _ _ g cap' pc (.slice (some ⟨mb, mo, none⟩) xs.length cap) xs 0 hown hgrow (by repeat (first | exact Below.refl _ _ | exact Nat.le_refl _ | apply Below.drew | (refine Below.alloc ?_ (by simp <;> omega) _))) (by simp <;> omega) (by simp <;> omega) (by simp <;> omega) (by simp <;> omega) (by simp <;> omega) (fun i => by go_simp) (fun i => by go_simp) (fun i => by go_simp) (by first | exact heap_at1 _ _ _ (by simp) | exact heap_at2 _ _ _ _ (by simp))⟩
    · go_simp
      refine hK.out _ _ (by refine ⟨?_, ?_, ?_⟩ <;> go_simp) (fun hH9 => ?_)
      clear hK K
      refine wpAnyH_ready (rs := [2]) (by kernel_rfl) (by simp) ?_
      refine AllReadyH.cons rfl (fun K hK => ?_) AllReadyH.nil
      go_simp
      refine hK.out _ _ (by refine ⟨?_, ?_, ?_⟩ <;> go_simp) (fun hH2 => ?_)
      clear hK K
      refine wpAnyH_ready (rs := [5]) (by kernel_rfl) (by simp) ?_
      refine AllReadyH.cons rfl (fun K hK => ?_) AllReadyH.nil
      refine step_append_made _ (by rfl) _ _ _ (by rfl) (w.heap.size + 2) 21 i0 _ 1 4 Tryd.underlying23 hi hz0 hz1 hz2 rfl (by omega) ⟨w.heap.size + 3, 0, none⟩ 0 0 [] (by rfl) (by first | exact ownsRow_empty _ _ (by simp) (by omega) | exact ownsRow_empty2 _ _ _ (by simp) (by omega)) ⟨mb, mo, none⟩ xs.length cap (xs.map (Value.int .i32)) (by rfl) hlen (Hn.out.news' (by repeat (first | exact Below.refl _ _ | exact Nat.le_refl _ | apply Below.drew | (refine Below.alloc ?_ (by simp <;> omega) _)))) (one_i32 xs) hml hby (by simp <;> omega) ?_
      intro g cap' w1 hown hgrow
      refine hK.out _ _ (by refine ⟨?_, ?_, ?_⟩ <;> (rw [hgrow.cell_far _ (by simp <;> omega) (by simp <;> omega)]; go_simp)) (fun hH5 => ?_)
      clear hK K
      try simp only [Act.put, List.setIfInBounds_toArray, List.set_cons_zero, List.set_cons_succ]
      rw [Nat.zero_add, List.nil_append] at hown
      rw [Nat.zero_add]
      have hs1 := hgrow.size
      simp at hs1
      have o0 : ∀ i, w1.cell? ⟨w.heap.size + 2, i, none⟩ = #[Value.int .i64 0, .slice none 0 0, .int .i64 0][i]? := fun i => (hgrow.cell_far _ (by simp <;> omega) (by simp <;> omega)).trans (by go_simp)
      have of : ∀ i, w1.frozen? ⟨w.heap.size + 2, i, none⟩ = false := fun i => (hgrow.frozen_far _ (by simp <;> omega) (by simp <;> omega)).trans (by go_simp)
      refine hd_take (i := 8) (some 17) (v := ?v8x3) rfl rfl (by kernel_rfl) (by kernel_rfl) (by kernel_rfl) (fun _ _ _ h => h) (by rfl) ?h8x3 (by assumption) ?r8x3
      case h8x3 =>
        intro w hSw
        (try dsimp only at hSw)
        go_simp
        (try with_reducible rfl)
      try simp only [Act.put, List.setIfInBounds_toArray, List.set_cons_zero, List.set_cons_succ]
      refine wpAnyH_ready (rs := [10]) (by kernel_rfl) (by simp) ?_
      refine AllReadyH.cons rfl (fun K hK => ?_) AllReadyH.nil
      go_simp
      refine hK.out _ _ (by refine ⟨?_, ?_, ?_⟩ <;> (rw [World.cell?_setCell_far _ _ _ _ (by simp <;> omega), World.cell?_setCell_far _ _ _ _ (by simp <;> omega), World.cell?_setCell_far _ _ _ _ (by simp <;> omega)]; first | exact hH5.1 | exact hH5.2.1 | exact hH5.2.2)) (fun hH10 => ?_)
      clear hK K
      refine wpAnyH_done (by kernel_rfl) ?_ _
      go_wp2_with fail
      go_meet
      case rel => exact ⟨_, g, cap', rfl, head_old w _ w1 _ _ g cap' pc (.slice (some ⟨mb, mo, none⟩) xs.length cap) xs 0 hown hgrow (by repeat (first | exact Below.refl _ _ | exact Nat.le_refl _ | apply Below.drew | (refine Below.alloc ?_ (by simp <;> omega) _))) (by simp <;> omega) (by simp <;> omega) (by simp <;> omega) (by simp <;> omega) (by simp <;> omega) (fun i => by go_simp) (fun i => by go_simp) (fun i => by go_simp) (by first | exact heap_at1 _ _ _ (by simp) | exact heap_at2 _ _ _ _ (by simp))⟩
  case rest =>
    obtain ⟨pb, g, cap', rfl, hH⟩ := hcut
    have HH := Lib.hid hH
    have bx := hH.box
    clear hH
    go_wp2_with fail
    refine (rright_any pc 0 _ _ _ _).mono ?_
    rintro e w1 ⟨rfl, hb1⟩
    have hs0 := HH.out.below.size
    have hpb := HH.out.lpb
    have hlp := HH.out.lp
    have bx1 : ∀ i, w1.cell? ⟨w.heap.size, i, none⟩ = #[Value.int .i64 pc, .slice (some ⟨mb, mo, none⟩) xs.length cap, .int .i64 0][i]? := fun i => (hb1.cell (p := ⟨w.heap.size, i, none⟩) (by show w.heap.size < _; omega)).trans (bx i)
    have HB1 := Lib.hid hb1
    clear bx hb1
    rw [Hr.out]
    go_wp2_with fail
    refine (rnext_yes pc _ _ _ l cv _ _ Hr.out ((Hc.out.below HH.out.below (Nat.le_refl _)).below HB1.out (Nat.le_refl _)) hll Hi.out).mono ?_
    rintro e w2 ⟨rfl, hb2⟩
    have hs1 := HB1.out.size
    have hs2 := hb2.size
    have HM2 : Hid (MSt w2 pb g cap' pc xs 0) := Lib.hid ((HH.out.st.below hx0 HB1.out).below hx0 hb2)
    have HB2 : Hid (Below w.heap.size w w2) := Lib.hid ((HH.out.below.trans (HB1.out.mono (by omega))).trans (hb2.mono (by omega)))
    have bx2 : ∀ i, w2.cell? ⟨w.heap.size, i, none⟩ = #[Value.int .i64 pc, .slice (some ⟨mb, mo, none⟩) xs.length cap, .int .i64 0][i]? := fun i => (hb2.cell (p := ⟨w.heap.size, i, none⟩) (by show w.heap.size < _; omega)).trans (bx1 i)
    have rs2 : ∀ i, w2.cell? ⟨w.heap.size + 1, i, none⟩ = #[Value.int .i64 0, .slice none 0 0, .int .i64 0][i]? := fun i => (hb2.cell (p := ⟨w.heap.size + 1, i, none⟩) (by show w.heap.size + 1 < _; omega)).trans ((HB1.out.cell (p := ⟨w.heap.size + 1, i, none⟩) (by show w.heap.size + 1 < _; omega)).trans (HH.out.res i))
    have fr2 : ∀ i, w2.frozen? ⟨w.heap.size + 1, i, none⟩ = false := fun i => (hb2.frozen (p := ⟨w.heap.size + 1, i, none⟩) (by show w.heap.size + 1 < _; omega)).trans ((HB1.out.frozen (p := ⟨w.heap.size + 1, i, none⟩) (by show w.heap.size + 1 < _; omega)).trans (HH.out.fres i))
    have mem2 : Hid (∀ k x, xs[k]? = some x → w2.cell? ⟨mb, mo + k, none⟩ = some (.int .i32 x)) := Lib.hid fun k x hx => (HB2.out.cell (p := ⟨mb, mo + k, none⟩) lm).trans (Hk.out k x hx)
    have lr2 : w.heap.size + 1 < w2.heap.size := by omega
    have lb2 : w.heap.size < w2.heap.size := by omega
    have lp2 : pb < w2.heap.size := by omega
    have lg2 : g < w2.heap.size := by have := HH.out.lgb; omega
    have lm2 : mb < w2.heap.size := by omega
    have hlw := lm
    have hpg := HH.out.st.ne
    have hlg := HH.out.lg
    have hlp' := HH.out.lp
    have q0 := HM2.out.st.c0
    have q1 := HM2.out.st.c1
    have q2 := HM2.out.st.c2
    have zp := HM2.out.fp
    have zg := HM2.out.fm
    clear bx1 hb2 hs0 hs1 hs2 hpb hlp
    go_upto_region 5 with (fail)
    obtain ⟨V, hE⟩ : ∃ V, V = w2.alloc (.cells #[.int .i64 15, .int .i64 a, .int .i64 b, .int .i64 c] 58) := ⟨_, rfl⟩
    rw [← hE]
    have R : Rdy w V w2.heap.size pb g cap' pc pc mb mo cap xs 15 a b c := by rw [hE]; exact Rdy.mk0 HM2.out HB2.out hx0 bx2 rs2 fr2 mem2.out lm HH.out.lp HH.out.lg lp2 lg2
    have hig : ¬ w2.heap.size = g := by omega
    clear hE bx2 rs2 fr2 mem2 HM2 HB2 q0 q1 q2 zp zg lr2 lb2 lp2 lg2 lm2
    generalize w2.heap.size = ib at *
    replace R := Lib.hid R
    have bxV := R.out.box
    have inV := R.out.ins
    go_wp2_with fail
    refine (place_any ⟨15, a, b, c⟩ (some ⟨mb, mo, none⟩) cap pc 0 _ xs _ (Hn.out.below R.out.below (Nat.le_refl _)) (by simp) Hri.out hl hW).mono ?_
    rintro e w3 ⟨rfl, hb3⟩
    rw [HF.out]
    replace R := Lib.hid (R.out.to hx0 hb3)
    clear bxV inV hb3
    have bxV := R.out.box
    have inV := R.out.ins
    have rsV := R.out.res
    have frV := R.out.fres
    have q0 := R.out.st.st.c0
    have q1 := R.out.st.st.c1
    have q2 := R.out.st.st.c2
    have zp := R.out.st.fp
    have zg := R.out.st.fm
    have libV := R.out.lib
    have lpbV := R.out.lpb
    have lgbV := R.out.lgb
    have hli := R.out.li
    have hip := R.out.hip
    have hbp : ¬ w.heap.size = pb := by omega
    have hbg : ¬ w.heap.size = g := by omega
    have hrp : ¬ w.heap.size + 1 = pb := by omega
    have hrg : ¬ w.heap.size + 1 = g := by omega
    have hmp : ¬ mb = pb := by omega
    have hmg : ¬ mb = g := by omega
    go_upto_region 12 with (fail)
    have R4 := R.out.setPc ((pc : Int) + 1)
    clear q0 q1 q2 zp zg bxV inV rsV frV R libV lpbV lgbV
    obtain ⟨W, hE⟩ : ∃ W, W = w3.setCell ⟨pb, 0, none⟩ (.int .i64 ((pc : Int) + 1)) := ⟨_, rfl⟩
    rw [← hE] at R4 ⊢
    clear hE
    have R := Lib.hid R4
    have b0 := R4.box 0
    have b1 := R4.box 1
    have b2 := R4.box 2
    have i0' := R4.ins 0
    have i1' := R4.ins 1
    have i2' := R4.ins 2
    have i3' := R4.ins 3
    simp at b0 b1 b2 i0' i1' i2' i3'
    have q1 := R4.st.st.c1
    have libV := R4.lib
    have lpbV := R4.lpb
    have lgbV := R4.lgb
    have rds := R4.mem f _ (gx_at (show f < xs.length by omega))
    have lsrc : (f : Int) < (xs.length : Int) := by omega
    have ldst : (a : Int) < (xs.length : Int) := by omega
    clear R4
    go_wp2_with fail
    go_region_held3 (fun w' => w'.cell? ⟨pb, 1, none⟩ = some (.slice (some ⟨g, 0, none⟩) xs.length cap') ∧ w'.cell? ⟨w.heap.size, 0, none⟩ = some (.int .i64 pc) ∧ w'.cell? ⟨w.heap.size, 1, none⟩ = some (.slice (some ⟨mb, mo, none⟩) xs.length cap) ∧ w'.cell? ⟨w.heap.size, 2, none⟩ = some (.int .i64 0) ∧ w'.cell? ⟨ib, 0, none⟩ = some (.int .i64 15) ∧ w'.cell? ⟨ib, 1, none⟩ = some (.int .i64 a) ∧ w'.cell? ⟨ib, 2, none⟩ = some (.int .i64 b) ∧ w'.cell? ⟨ib, 3, none⟩ = some (.int .i64 c) ∧ w'.cell? ⟨mb, mo + f, none⟩ = some (.int .i32 (gx xs f)))
      (first | go_keep | (go_split_ands; refine ⟨?_, ?_, ?_, ?_, ?_, ?_, ?_, ?_, ?_⟩ <;> (first | (rw [cell_set_off (by omega)]; assumption) | (rw [hb4.cell (by simp; omega)]; assumption) | (simp; done))))
      ((go_at_call 28; refine (place_any ⟨15, a, b, c⟩ (some ⟨mb, mo, none⟩) cap pc 0 _ xs _ (Hn.out.below R.out.below.drew (Nat.le_refl _)) (by simp) Hri.out hl hW).mono ?_; rintro e w4 ⟨rfl, hb4⟩; rw [HF.out]; have R4 := R.out.to hx0 ((Below.refl _ _).drew.trans hb4); have zg4 := R4.st.fm; have cg4 := R4.st.cells a _ (gx_at (show a < xs.length by omega)); clear R4))
    have R4 := R.out.to hx0 ((Below.refl _ _).drew.trans hb4)
    have rsV := R4.res
    have frV := R4.fres
    have q0 := R4.st.st.c0
    have q1 := R4.st.st.c1
    have q2 := R4.st.st.c2
    have zp := R4.st.fp
    replace R4 := Lib.hid R4
    go_wp2
    refine bodyPost_ret (v := .agg #[.int .i64 ((pc : Int) + 1), .slice (some ⟨g, 0, none⟩) xs.length cap', .int .i64 (0)]) (by simp [results, Tryd.results17, go_sem, *]) rfl ?_
    exact fin (R4.out.st.setMem (a := a) (by omega) _) (R4.out.below.setCell (by show w.heap.size ≤ g; omega) _) HH.out.lk hx0 (wx_len _ _ _) hlg
end Go.Proofs.YteecpkkgjioplaaDoor

/- baizeref15.Step: rstep_16 -/
namespace Go.Proofs.YteecpkkgjioplaaDoor
open Go.RowKit Go

set_option linter.unusedSimpArgs false in
set_option linter.unusedVariables false in
set_option maxRecDepth 100000 in
set_option maxHeartbeats 4000000 in
theorem rstep_16 (pc : Nat) (ad : Addr) (cap : Nat) (xs : List Int) (cv : Value) (l : List Ins) (a b c : Int) (w : World) (h : I32s w (.slice (some ad) xs.length cap) xs) (hl : xs.length ≤ 300) (hr : rightSt pc xs.length 0 = true) (hc : InsS w cv l) (hll : l.length ≤ 300) (hW : W32 xs) (hi' : nextP l pc xs.length = some ⟨16, a, b, c⟩) (f : Nat) (hff : farI ⟨16, a, b, c⟩ xs = f) (hfl : f < xs.length) :
    Calls Tryd.prog 17 #[cv, .agg #[.int .i64 pc, .slice (some ad) xs.length cap, .int .i64 0]] w fun e w' => StPost w ((pc : Int) + 1, wx xs f (gx xs c), 0) e w' := by
  obtain ⟨i0, hi, hz0, hz1, hz2⟩ := info_parts info21
  have hlen : (xs.map (Value.int .i32)).length = xs.length * 1 := by simp
  have hml : 0 + xs.length ≤ maxLen := by unfold maxLen; omega
  have hby : (0 + xs.length) * 4 ≤ 140737488355328 := by omega
  obtain ⟨hri, hpc⟩ := nextP_right hi'
  simp only [Int.toNat_natCast] at hri hpc
  have hx0 : 0 < xs.length := by have := (rightSt_iff.1 hr).1; omega
  obtain ⟨ha0, ha1, hb0, hb1, hc0, hc1⟩ := right_www (by simp) hri
  obtain ⟨a, rfl⟩ := Int.eq_ofNat_of_zero_le ha0
  obtain ⟨b, rfl⟩ := Int.eq_ofNat_of_zero_le hb0
  obtain ⟨c, rfl⟩ := Int.eq_ofNat_of_zero_le hc0
  have HF := Lib.hid hff
  clear hff
  obtain ⟨mb, mo, rfl, lm, hk⟩ := h.look hx0
  have Hk := Lib.hid hk
  have Hn := Lib.hid h
  have Hr := Lib.hid hr
  have Hri := Lib.hid hri
  have Hc := Lib.hid hc
  have Hi := Lib.hid hi'
  have pc0 : (pc : Int) ≤ 300 := by omega
  clear h hr hc hi' hri hk
  go_enter Tryd.func17, Tryd.ntmps17
  go_upto_region 1 with (fail)
  go_cut [5] (fun v5 wc => ∃ pb g cap', v5 = .pointer (some ⟨pb, 0, none⟩) ∧ Head w wc pb g cap' pc (.slice (some ⟨mb, mo, none⟩) xs.length cap) xs 0)
  case first =>
    refine wp_region_held_drew (S := fun w' => w'.cell? ⟨w.heap.size, 0, none⟩ = some (.int .i64 pc) ∧ w'.cell? ⟨w.heap.size, 1, none⟩ = some (.slice (some ⟨mb, mo, none⟩) xs.length cap) ∧ w'.cell? ⟨w.heap.size, 2, none⟩ = some (.int .i64 0)) (by kernel_rfl) (by refine ⟨?_, ?_, ?_⟩ <;> go_simp) (fun hHeld => ?_)
    refine hd_take (i := 0) (some 9) (v := ?v0) rfl rfl (by kernel_rfl) (by kernel_rfl) (by kernel_rfl) (fun _ _ _ h => h) (by rfl) ?h0 (by assumption) ?r0
    case h0 =>
      intro w hSw
      (try dsimp only at hSw)
      go_simp
      (try with_reducible rfl)
    try simp only [Act.put, List.setIfInBounds_toArray, List.set_cons_zero, List.set_cons_succ]
    refine hd_take (i := 1) (some 10) (v := ?v1) rfl rfl (by kernel_rfl) (by kernel_rfl) (by kernel_rfl) (fun _ _ _ h => h) (by rfl) ?h1 (by assumption) ?r1
    case h1 =>
      intro w hSw
      (try dsimp only at hSw)
      go_simp
      (try with_reducible rfl)
    try simp only [Act.put, List.setIfInBounds_toArray, List.set_cons_zero, List.set_cons_succ]
    refine hd_take (i := 3) (some 12) (v := ?v3) rfl rfl (by kernel_rfl) (by kernel_rfl) (by kernel_rfl) (fun _ _ _ h => h) (by rfl) ?h3 (by assumption) ?r3
    case h3 =>
      intro w hSw
      (try dsimp only at hSw)
      go_simp
      (try with_reducible rfl)
    try simp only [Act.put, List.setIfInBounds_toArray, List.set_cons_zero, List.set_cons_succ]
    refine hd_take (i := 4) (some 13) (v := ?v4) rfl rfl (by kernel_rfl) (by kernel_rfl) (by kernel_rfl) (fun _ _ _ h => h) (by rfl) ?h4 (by assumption) ?r4
    case h4 =>
      intro w hSw
      (try dsimp only at hSw)
      go_simp
      (try with_reducible rfl)
    try simp only [Act.put, List.setIfInBounds_toArray, List.set_cons_zero, List.set_cons_succ]
    refine hd_take (i := 6) (some 15) (v := ?v6) rfl rfl (by kernel_rfl) (by kernel_rfl) (by kernel_rfl) (fun _ _ _ h => h) (by rfl) ?h6 (by assumption) ?r6
    case h6 =>
      intro w hSw
      (try dsimp only at hSw)
      go_simp
      (try with_reducible rfl)
    try simp only [Act.put, List.setIfInBounds_toArray, List.set_cons_zero, List.set_cons_succ]
    refine hd_take (i := 7) (some 16) (v := ?v7) rfl rfl (by kernel_rfl) (by kernel_rfl) (by kernel_rfl) (fun _ _ _ h => h) (by rfl) ?h7 (by assumption) ?r7
    case h7 =>
      intro w hSw
      (try dsimp only at hSw)
      go_simp
      (try with_reducible rfl)
    try simp only [Act.put, List.setIfInBounds_toArray, List.set_cons_zero, List.set_cons_succ]
    refine wpAnyH_ready (rs := [2, 9]) (by kernel_rfl) (by simp) ?_
    refine AllReadyH.cons rfl (fun K hK => ?_) (AllReadyH.cons rfl (fun K hK => ?_) AllReadyH.nil)
    · go_simp
      refine hK.out _ _ (by refine ⟨?_, ?_, ?_⟩ <;> go_simp) (fun hH2 => ?_)
      clear hK K
      refine wpAnyH_ready (rs := [5, 9]) (by kernel_rfl) (by simp) ?_
      refine AllReadyH.cons rfl (fun K hK => ?_) (AllReadyH.cons rfl (fun K hK => ?_) AllReadyH.nil)
      · refine step_append_made _ (by rfl) _ _ _ (by rfl) (w.heap.size + 2) 21 i0 _ 1 4 Tryd.underlying23 hi hz0 hz1 hz2 rfl (by omega) ⟨w.heap.size + 2, 0, none⟩ 0 0 [] (by rfl) (by first | exact ownsRow_empty _ _ (by simp) (by omega) | exact ownsRow_empty2 _ _ _ (by simp) (by omega)) ⟨mb, mo, none⟩ xs.length cap (xs.map (Value.int .i32)) (by rfl) hlen (Hn.out.news' (by repeat (first | exact Below.refl _ _ | exact Nat.le_refl _ | apply Below.drew | (refine Below.alloc ?_ (by simp <;> omega) _)))) (one_i32 xs) hml hby (by simp <;> omega) ?_
        intro g cap' w1 hown hgrow
        refine hK.out _ _ (by refine ⟨?_, ?_, ?_⟩ <;> (rw [hgrow.cell_far _ (by simp <;> omega) (by simp <;> omega)]; go_simp)) (fun hH5 => ?_)
        clear hK K
        try simp only [Act.put, List.setIfInBounds_toArray, List.set_cons_zero, List.set_cons_succ]
        rw [Nat.zero_add, List.nil_append] at hown
        rw [Nat.zero_add]
        have hs1 := hgrow.size
        simp at hs1
        refine hd_take (i := 8) (some 17) (v := ?v8x1) rfl rfl (by kernel_rfl) (by kernel_rfl) (by kernel_rfl) (fun _ _ _ h => h) (by rfl) ?h8x1 (by assumption) ?r8x1
        case h8x1 =>
          intro w hSw
          (try dsimp only at hSw)
          go_simp
          (try with_reducible rfl)
        try simp only [Act.put, List.setIfInBounds_toArray, List.set_cons_zero, List.set_cons_succ]
        refine wpAnyH_ready (rs := [9]) (by kernel_rfl) (by simp) ?_
        refine AllReadyH.cons rfl (fun K hK => ?_) AllReadyH.nil
        go_simp
        refine hK.out _ _ (by refine ⟨?_, ?_, ?_⟩ <;> (rw [World.cell?_alloc_past _ _ _ (by omega)]; first | exact hH5.1 | exact hH5.2.1 | exact hH5.2.2)) (fun hH9 => ?_)
        clear hK K
        refine wpAnyH_ready (rs := [10]) (by kernel_rfl) (by simp) ?_
        refine AllReadyH.cons rfl (fun K hK => ?_) AllReadyH.nil
        go_simp
        refine hK.out _ _ (by refine ⟨?_, ?_, ?_⟩ <;> (rw [World.cell?_alloc_past _ _ _ (by omega)]; first | exact hH5.1 | exact hH5.2.1 | exact hH5.2.2)) (fun hH10 => ?_)
        clear hK K
        refine wpAnyH_done (by kernel_rfl) ?_ _
        go_wp2_with fail
        go_meet
        case rel => exact ⟨_, g, cap', rfl, head_new w _ w1 g cap' pc (.slice (some ⟨mb, mo, none⟩) xs.length cap) xs 0 hown hgrow (by repeat (first | exact Below.refl _ _ | exact Nat.le_refl _ | apply Below.drew | (refine Below.alloc ?_ (by simp <;> omega) _))) (by simp <;> omega) (by simp <;> omega) (fun i => by go_simp) (fun i => by go_simp) (fun i => by go_simp)⟩
      · go_simp
        refine hK.out _ _ (by refine ⟨?_, ?_, ?_⟩ <;> go_simp) (fun hH9 => ?_)
        clear hK K
        refine wpAnyH_ready (rs := [5]) (by kernel_rfl) (by simp) ?_
        refine AllReadyH.cons rfl (fun K hK => ?_) AllReadyH.nil
        refine step_append_made _ (by rfl) _ _ _ (by rfl) (w.heap.size + 2) 21 i0 _ 1 4 Tryd.underlying23 hi hz0 hz1 hz2 rfl (by omega) ⟨w.heap.size + 2, 0, none⟩ 0 0 [] (by rfl) (by first | exact ownsRow_empty _ _ (by simp) (by omega) | exact ownsRow_empty2 _ _ _ (by simp) (by omega)) ⟨mb, mo, none⟩ xs.length cap (xs.map (Value.int .i32)) (by rfl) hlen (Hn.out.news' (by repeat (first | exact Below.refl _ _ | exact Nat.le_refl _ | apply Below.drew | (refine Below.alloc ?_ (by simp <;> omega) _)))) (one_i32 xs) hml hby (by simp <;> omega) ?_
        intro g cap' w1 hown hgrow
        refine hK.out _ _ (by refine ⟨?_, ?_, ?_⟩ <;> (rw [hgrow.cell_far _ (by simp <;> omega) (by simp <;> omega)]; go_simp)) (fun hH5 => ?_)
        clear hK K
        try simp only [Act.put, List.setIfInBounds_toArray, List.set_cons_zero, List.set_cons_succ]
        rw [Nat.zero_add, List.nil_append] at hown
        rw [Nat.zero_add]
        have hs1 := hgrow.size
        simp at hs1
        have o0 : ∀ i, w1.cell? ⟨w.heap.size + 3, i, none⟩ = #[Value.int .i64 0, .slice none 0 0, .int .i64 0][i]? := fun i => (hgrow.cell_far _ (by simp <;> omega) (by simp <;> omega)).trans (by go_simp)
        have of : ∀ i, w1.frozen? ⟨w.heap.size + 3, i, none⟩ = false := fun i => (hgrow.frozen_far _ (by simp <;> omega) (by simp <;> omega)).trans (by go_simp)
        refine hd_take (i := 8) (some 17) (v := ?v8x2) rfl rfl (by kernel_rfl) (by kernel_rfl) (by kernel_rfl) (fun _ _ _ h => h) (by rfl) ?h8x2 (by assumption) ?r8x2
        case h8x2 =>
          intro w hSw
          (try dsimp only at hSw)
          go_simp
          (try with_reducible rfl)
        try simp only [Act.put, List.setIfInBounds_toArray, List.set_cons_zero, List.set_cons_succ]
        refine wpAnyH_ready (rs := [10]) (by kernel_rfl) (by simp) ?_
        refine AllReadyH.cons rfl (fun K hK => ?_) AllReadyH.nil
        go_simp
        refine hK.out _ _ (by refine ⟨?_, ?_, ?_⟩ <;> (rw [World.cell?_setCell_far _ _ _ _ (by simp <;> omega), World.cell?_setCell_far _ _ _ _ (by simp <;> omega), World.cell?_setCell_far _ _ _ _ (by simp <;> omega)]; first | exact hH5.1 | exact hH5.2.1 | exact hH5.2.2)) (fun hH10 => ?_)
        clear hK K
        refine wpAnyH_done (by kernel_rfl) ?_ _
        go_wp2_with fail
        go_meet
        case rel => exact ⟨_, g, cap', rfl, head_old w _ w1 _ _ g cap' pc (.slice (some ⟨mb, mo, none⟩) xs.length cap) xs 0 hown hgrow (by repeat (first | exact Below.refl _ _ | exact Nat.le_refl _ | apply Below.drew | (refine Below.alloc ?_ (by simp <;> omega) _))) (by simp <;> omega) (by simp <;> omega) (by simp <;> omega) (by simp <;> omega) (by simp <;> omega) (fun i => by go_simp) (fun i => by go_simp) (fun i => by go_simp) (by first | exact heap_at1 _ _ _ (by simp) | exact heap_at2 _ _ _ _ (by simp))⟩
    · go_simp
      refine hK.out _ _ (by refine ⟨?_, ?_, ?_⟩ <;> go_simp) (fun hH9 => ?_)
      clear hK K
      refine wpAnyH_ready (rs := [2]) (by kernel_rfl) (by simp) ?_
      refine AllReadyH.cons rfl (fun K hK => ?_) AllReadyH.nil
      go_simp
      refine hK.out _ _ (by refine ⟨?_, ?_, ?_⟩ <;> go_simp) (fun hH2 => ?_)
      clear hK K
      refine wpAnyH_ready (rs := [5]) (by kernel_rfl) (by simp) ?_
      refine AllReadyH.cons rfl (fun K hK => ?_) AllReadyH.nil
      refine step_append_made _ (by rfl) _ _ _ (by rfl) (w.heap.size + 2) 21 i0 _ 1 4 Tryd.underlying23 hi hz0 hz1 hz2 rfl (by omega) ⟨w.heap.size + 3, 0, none⟩ 0 0 [] (by rfl) (by first | exact ownsRow_empty _ _ (by simp) (by omega) | exact ownsRow_empty2 _ _ _ (by simp) (by omega)) ⟨mb, mo, none⟩ xs.length cap (xs.map (Value.int .i32)) (by rfl) hlen (Hn.out.news' (by repeat (first | exact Below.refl _ _ | exact Nat.le_refl _ | apply Below.drew | (refine Below.alloc ?_ (by simp <;> omega) _)))) (one_i32 xs) hml hby (by simp <;> omega) ?_
      intro g cap' w1 hown hgrow
      refine hK.out _ _ (by refine ⟨?_, ?_, ?_⟩ <;> (rw [hgrow.cell_far _ (by simp <;> omega) (by simp <;> omega)]; go_simp)) (fun hH5 => ?_)
      clear hK K
      try simp only [Act.put, List.setIfInBounds_toArray, List.set_cons_zero, List.set_cons_succ]
      rw [Nat.zero_add, List.nil_append] at hown
      rw [Nat.zero_add]
      have hs1 := hgrow.size
      simp at hs1
      have o0 : ∀ i, w1.cell? ⟨w.heap.size + 2, i, none⟩ = #[Value.int .i64 0, .slice none 0 0, .int .i64 0][i]? := fun i => (hgrow.cell_far _ (by simp <;> omega) (by simp <;> omega)).trans (by go_simp)
      have of : ∀ i, w1.frozen? ⟨w.heap.size + 2, i, none⟩ = false := fun i => (hgrow.frozen_far _ (by simp <;> omega) (by simp <;> omega)).trans (by go_simp)
      refine hd_take (i := 8) (some 17) (v := ?v8x3) rfl rfl (by kernel_rfl) (by kernel_rfl) (by kernel_rfl) (fun _ _ _ h => h) (by rfl) ?h8x3 (by assumption) ?r8x3
      case h8x3 =>
        intro w hSw
        (try dsimp only at hSw)
        go_simp
        (try with_reducible rfl)
      try simp only [Act.put, List.setIfInBounds_toArray, List.set_cons_zero, List.set_cons_succ]
      refine wpAnyH_ready (rs := [10]) (by kernel_rfl) (by simp) ?_
      refine AllReadyH.cons rfl (fun K hK => ?_) AllReadyH.nil
      go_simp
      refine hK.out _ _ (by refine ⟨?_, ?_, ?_⟩ <;> (rw [World.cell?_setCell_far _ _ _ _ (by simp <;> omega), World.cell?_setCell_far _ _ _ _ (by simp <;> omega), World.cell?_setCell_far _ _ _ _ (by simp <;> omega)]; first | exact hH5.1 | exact hH5.2.1 | exact hH5.2.2)) (fun hH10 => ?_)
      clear hK K
      refine wpAnyH_done (by kernel_rfl) ?_ _
      go_wp2_with fail
      go_meet
      case rel => exact ⟨_, g, cap', rfl, head_old w _ w1 _ _ g cap' pc (.slice (some ⟨mb, mo, none⟩) xs.length cap) xs 0 hown hgrow (by repeat (first | exact Below.refl _ _ | exact Nat.le_refl _ | apply Below.drew | (refine Below.alloc ?_ (by simp <;> omega) _))) (by simp <;> omega) (by simp <;> omega) (by simp <;> omega) (by simp <;> omega) (by simp <;> omega) (fun i => by go_simp) (fun i => by go_simp) (fun i => by go_simp) (by first | exact heap_at1 _ _ _ (by simp) | exact heap_at2 _ _ _ _ (by simp))⟩
  case rest =>
    obtain ⟨pb, g, cap', rfl, hH⟩ := hcut
    have HH := Lib.hid hH
    have bx := hH.box
    clear hH
    go_wp2_with fail
    refine (rright_any pc 0 _ _ _ _).mono ?_
    rintro e w1 ⟨rfl, hb1⟩
    have hs0 := HH.out.below.size
    have hpb := HH.out.lpb
    have hlp := HH.out.lp
    have bx1 : ∀ i, w1.cell? ⟨w.heap.size, i, none⟩ = #[Value.int .i64 pc, .slice (some ⟨mb, mo, none⟩) xs.length cap, .int .i64 0][i]? := fun i => (hb1.cell (p := ⟨w.heap.size, i, none⟩) (by show w.heap.size < _; omega)).trans (bx i)
    have HB1 := Lib.hid hb1
    clear bx hb1
    rw [Hr.out]
    go_wp2_with fail
    refine (rnext_yes pc _ _ _ l cv _ _ Hr.out ((Hc.out.below HH.out.below (Nat.le_refl _)).below HB1.out (Nat.le_refl _)) hll Hi.out).mono ?_
    rintro e w2 ⟨rfl, hb2⟩
    have hs1 := HB1.out.size
    have hs2 := hb2.size
    have HM2 : Hid (MSt w2 pb g cap' pc xs 0) := Lib.hid ((HH.out.st.below hx0 HB1.out).below hx0 hb2)
    have HB2 : Hid (Below w.heap.size w w2) := Lib.hid ((HH.out.below.trans (HB1.out.mono (by omega))).trans (hb2.mono (by omega)))
    have bx2 : ∀ i, w2.cell? ⟨w.heap.size, i, none⟩ = #[Value.int .i64 pc, .slice (some ⟨mb, mo, none⟩) xs.length cap, .int .i64 0][i]? := fun i => (hb2.cell (p := ⟨w.heap.size, i, none⟩) (by show w.heap.size < _; omega)).trans (bx1 i)
    have rs2 : ∀ i, w2.cell? ⟨w.heap.size + 1, i, none⟩ = #[Value.int .i64 0, .slice none 0 0, .int .i64 0][i]? := fun i => (hb2.cell (p := ⟨w.heap.size + 1, i, none⟩) (by show w.heap.size + 1 < _; omega)).trans ((HB1.out.cell (p := ⟨w.heap.size + 1, i, none⟩) (by show w.heap.size + 1 < _; omega)).trans (HH.out.res i))
    have fr2 : ∀ i, w2.frozen? ⟨w.heap.size + 1, i, none⟩ = false := fun i => (hb2.frozen (p := ⟨w.heap.size + 1, i, none⟩) (by show w.heap.size + 1 < _; omega)).trans ((HB1.out.frozen (p := ⟨w.heap.size + 1, i, none⟩) (by show w.heap.size + 1 < _; omega)).trans (HH.out.fres i))
    have mem2 : Hid (∀ k x, xs[k]? = some x → w2.cell? ⟨mb, mo + k, none⟩ = some (.int .i32 x)) := Lib.hid fun k x hx => (HB2.out.cell (p := ⟨mb, mo + k, none⟩) lm).trans (Hk.out k x hx)
    have lr2 : w.heap.size + 1 < w2.heap.size := by omega
    have lb2 : w.heap.size < w2.heap.size := by omega
    have lp2 : pb < w2.heap.size := by omega
    have lg2 : g < w2.heap.size := by have := HH.out.lgb; omega
    have lm2 : mb < w2.heap.size := by omega
    have hlw := lm
    have hpg := HH.out.st.ne
    have hlg := HH.out.lg
    have hlp' := HH.out.lp
    have q0 := HM2.out.st.c0
    have q1 := HM2.out.st.c1
    have q2 := HM2.out.st.c2
    have zp := HM2.out.fp
    have zg := HM2.out.fm
    clear bx1 hb2 hs0 hs1 hs2 hpb hlp
    go_upto_region 5 with (fail)
    obtain ⟨V, hE⟩ : ∃ V, V = w2.alloc (.cells #[.int .i64 16, .int .i64 a, .int .i64 b, .int .i64 c] 58) := ⟨_, rfl⟩
    rw [← hE]
    have R : Rdy w V w2.heap.size pb g cap' pc pc mb mo cap xs 16 a b c := by rw [hE]; exact Rdy.mk0 HM2.out HB2.out hx0 bx2 rs2 fr2 mem2.out lm HH.out.lp HH.out.lg lp2 lg2
    have hig : ¬ w2.heap.size = g := by omega
    clear hE bx2 rs2 fr2 mem2 HM2 HB2 q0 q1 q2 zp zg lr2 lb2 lp2 lg2 lm2
    generalize w2.heap.size = ib at *
    replace R := Lib.hid R
    have bxV := R.out.box
    have inV := R.out.ins
    go_wp2_with fail
    refine (place_any ⟨16, a, b, c⟩ (some ⟨mb, mo, none⟩) cap pc 0 _ xs _ (Hn.out.below R.out.below (Nat.le_refl _)) (by simp) Hri.out hl hW).mono ?_
    rintro e w3 ⟨rfl, hb3⟩
    rw [HF.out]
    replace R := Lib.hid (R.out.to hx0 hb3)
    clear bxV inV hb3
    have bxV := R.out.box
    have inV := R.out.ins
    have rsV := R.out.res
    have frV := R.out.fres
    have q0 := R.out.st.st.c0
    have q1 := R.out.st.st.c1
    have q2 := R.out.st.st.c2
    have zp := R.out.st.fp
    have zg := R.out.st.fm
    have libV := R.out.lib
    have lpbV := R.out.lpb
    have lgbV := R.out.lgb
    have hli := R.out.li
    have hip := R.out.hip
    have hbp : ¬ w.heap.size = pb := by omega
    have hbg : ¬ w.heap.size = g := by omega
    have hrp : ¬ w.heap.size + 1 = pb := by omega
    have hrg : ¬ w.heap.size + 1 = g := by omega
    have hmp : ¬ mb = pb := by omega
    have hmg : ¬ mb = g := by omega
    go_upto_region 12 with (fail)
    have R4 := R.out.setPc ((pc : Int) + 1)
    clear q0 q1 q2 zp zg bxV inV rsV frV R libV lpbV lgbV
    obtain ⟨W, hE⟩ : ∃ W, W = w3.setCell ⟨pb, 0, none⟩ (.int .i64 ((pc : Int) + 1)) := ⟨_, rfl⟩
    rw [← hE] at R4 ⊢
    clear hE
    have R := Lib.hid R4
    have b0 := R4.box 0
    have b1 := R4.box 1
    have b2 := R4.box 2
    have i0' := R4.ins 0
    have i1' := R4.ins 1
    have i2' := R4.ins 2
    have i3' := R4.ins 3
    simp at b0 b1 b2 i0' i1' i2' i3'
    have q1 := R4.st.st.c1
    have libV := R4.lib
    have lpbV := R4.lpb
    have lgbV := R4.lgb
    have rds := R4.mem c _ (gx_at (show c < xs.length by omega))
    have lsrc : (c : Int) < (xs.length : Int) := by omega
    have ldst : (f : Int) < (xs.length : Int) := by omega
    clear R4
    go_wp2_with fail
    go_region_held3 (fun w' => w'.cell? ⟨pb, 1, none⟩ = some (.slice (some ⟨g, 0, none⟩) xs.length cap') ∧ w'.cell? ⟨w.heap.size, 0, none⟩ = some (.int .i64 pc) ∧ w'.cell? ⟨w.heap.size, 1, none⟩ = some (.slice (some ⟨mb, mo, none⟩) xs.length cap) ∧ w'.cell? ⟨w.heap.size, 2, none⟩ = some (.int .i64 0) ∧ w'.cell? ⟨ib, 0, none⟩ = some (.int .i64 16) ∧ w'.cell? ⟨ib, 1, none⟩ = some (.int .i64 a) ∧ w'.cell? ⟨ib, 2, none⟩ = some (.int .i64 b) ∧ w'.cell? ⟨ib, 3, none⟩ = some (.int .i64 c) ∧ w'.cell? ⟨mb, mo + c, none⟩ = some (.int .i32 (gx xs c)))
      (first | go_keep | (go_split_ands; refine ⟨?_, ?_, ?_, ?_, ?_, ?_, ?_, ?_, ?_⟩ <;> (first | (rw [cell_set_off (by omega)]; assumption) | (rw [hb4.cell (by simp; omega)]; assumption) | (simp; done))))
      ((go_at_call 28; refine (place_any ⟨16, a, b, c⟩ (some ⟨mb, mo, none⟩) cap pc 0 _ xs _ (Hn.out.below R.out.below.drew (Nat.le_refl _)) (by simp) Hri.out hl hW).mono ?_; rintro e w4 ⟨rfl, hb4⟩; rw [HF.out]; have R4 := R.out.to hx0 ((Below.refl _ _).drew.trans hb4); have zg4 := R4.st.fm; have cg4 := R4.st.cells f _ (gx_at (show f < xs.length by omega)); clear R4))
    have R4 := R.out.to hx0 ((Below.refl _ _).drew.trans hb4)
    have rsV := R4.res
    have frV := R4.fres
    have q0 := R4.st.st.c0
    have q1 := R4.st.st.c1
    have q2 := R4.st.st.c2
    have zp := R4.st.fp
    replace R4 := Lib.hid R4
    go_wp2
    refine bodyPost_ret (v := .agg #[.int .i64 ((pc : Int) + 1), .slice (some ⟨g, 0, none⟩) xs.length cap', .int .i64 (0)]) (by simp [results, Tryd.results17, go_sem, *]) rfl ?_
    exact fin (R4.out.st.setMem (a := f) (by omega) _) (R4.out.below.setCell (by show w.heap.size ≤ g; omega) _) HH.out.lk hx0 (wx_len _ _ _) hlg
end Go.Proofs.YteecpkkgjioplaaDoor

/- baizeref15.Step: rstep_17 -/
namespace Go.Proofs.YteecpkkgjioplaaDoor
open Go.RowKit Go

set_option linter.unusedSimpArgs false in
set_option linter.unusedVariables false in
set_option maxRecDepth 100000 in
set_option maxHeartbeats 4000000 in
theorem rstep_17 (pc : Nat) (ad : Addr) (cap : Nat) (xs : List Int) (cv : Value) (l : List Ins) (a b c : Int) (w : World) (h : I32s w (.slice (some ad) xs.length cap) xs) (hl : xs.length ≤ 300) (hr : rightSt pc xs.length 0 = true) (hc : InsS w cv l) (hll : l.length ≤ 300) (hW : W32 xs) (hi' : nextP l pc xs.length = some ⟨17, a, b, c⟩) :
    Calls Tryd.prog 17 #[cv, .agg #[.int .i64 pc, .slice (some ad) xs.length cap, .int .i64 0]] w fun e w' => StPost w ((pc : Int) + 1, wx xs a (min (max (gx xs a) b) c), 0) e w' := by
  obtain ⟨i0, hi, hz0, hz1, hz2⟩ := info_parts info21
  have hlen : (xs.map (Value.int .i32)).length = xs.length * 1 := by simp
  have hml : 0 + xs.length ≤ maxLen := by unfold maxLen; omega
  have hby : (0 + xs.length) * 4 ≤ 140737488355328 := by omega
  obtain ⟨hri, hpc⟩ := nextP_right hi'
  simp only [Int.toNat_natCast] at hri hpc
  have hx0 : 0 < xs.length := by have := (rightSt_iff.1 hr).1; omega
  obtain ⟨ha0, ha1, hbn, hcn, hbc⟩ := right_17 hri
  obtain ⟨a, rfl⟩ := Int.eq_ofNat_of_zero_le ha0
  simp [numP] at hbn hcn
  obtain ⟨hb0, hb1⟩ := hbn
  obtain ⟨hc0, hc1⟩ := hcn
  obtain ⟨mb, mo, rfl, lm, hk⟩ := h.look hx0
  have Hk := Lib.hid hk
  have Hn := Lib.hid h
  have Hr := Lib.hid hr
  have Hri := Lib.hid hri
  have Hc := Lib.hid hc
  have Hi := Lib.hid hi'
  have pc0 : (pc : Int) ≤ 300 := by omega
  clear h hr hc hi' hri hk
  go_enter Tryd.func17, Tryd.ntmps17
  go_upto_region 1 with (fail)
  go_cut [5] (fun v5 wc => ∃ pb g cap', v5 = .pointer (some ⟨pb, 0, none⟩) ∧ Head w wc pb g cap' pc (.slice (some ⟨mb, mo, none⟩) xs.length cap) xs 0)
  case first =>
    refine wp_region_held_drew (S := fun w' => w'.cell? ⟨w.heap.size, 0, none⟩ = some (.int .i64 pc) ∧ w'.cell? ⟨w.heap.size, 1, none⟩ = some (.slice (some ⟨mb, mo, none⟩) xs.length cap) ∧ w'.cell? ⟨w.heap.size, 2, none⟩ = some (.int .i64 0)) (by kernel_rfl) (by refine ⟨?_, ?_, ?_⟩ <;> go_simp) (fun hHeld => ?_)
    refine hd_take (i := 0) (some 9) (v := ?v0) rfl rfl (by kernel_rfl) (by kernel_rfl) (by kernel_rfl) (fun _ _ _ h => h) (by rfl) ?h0 (by assumption) ?r0
    case h0 =>
      intro w hSw
      (try dsimp only at hSw)
      go_simp
      (try with_reducible rfl)
    try simp only [Act.put, List.setIfInBounds_toArray, List.set_cons_zero, List.set_cons_succ]
    refine hd_take (i := 1) (some 10) (v := ?v1) rfl rfl (by kernel_rfl) (by kernel_rfl) (by kernel_rfl) (fun _ _ _ h => h) (by rfl) ?h1 (by assumption) ?r1
    case h1 =>
      intro w hSw
      (try dsimp only at hSw)
      go_simp
      (try with_reducible rfl)
    try simp only [Act.put, List.setIfInBounds_toArray, List.set_cons_zero, List.set_cons_succ]
    refine hd_take (i := 3) (some 12) (v := ?v3) rfl rfl (by kernel_rfl) (by kernel_rfl) (by kernel_rfl) (fun _ _ _ h => h) (by rfl) ?h3 (by assumption) ?r3
    case h3 =>
      intro w hSw
      (try dsimp only at hSw)
      go_simp
      (try with_reducible rfl)
    try simp only [Act.put, List.setIfInBounds_toArray, List.set_cons_zero, List.set_cons_succ]
    refine hd_take (i := 4) (some 13) (v := ?v4) rfl rfl (by kernel_rfl) (by kernel_rfl) (by kernel_rfl) (fun _ _ _ h => h) (by rfl) ?h4 (by assumption) ?r4
    case h4 =>
      intro w hSw
      (try dsimp only at hSw)
      go_simp
      (try with_reducible rfl)
    try simp only [Act.put, List.setIfInBounds_toArray, List.set_cons_zero, List.set_cons_succ]
    refine hd_take (i := 6) (some 15) (v := ?v6) rfl rfl (by kernel_rfl) (by kernel_rfl) (by kernel_rfl) (fun _ _ _ h => h) (by rfl) ?h6 (by assumption) ?r6
    case h6 =>
      intro w hSw
      (try dsimp only at hSw)
      go_simp
      (try with_reducible rfl)
    try simp only [Act.put, List.setIfInBounds_toArray, List.set_cons_zero, List.set_cons_succ]
    refine hd_take (i := 7) (some 16) (v := ?v7) rfl rfl (by kernel_rfl) (by kernel_rfl) (by kernel_rfl) (fun _ _ _ h => h) (by rfl) ?h7 (by assumption) ?r7
    case h7 =>
      intro w hSw
      (try dsimp only at hSw)
      go_simp
      (try with_reducible rfl)
    try simp only [Act.put, List.setIfInBounds_toArray, List.set_cons_zero, List.set_cons_succ]
    refine wpAnyH_ready (rs := [2, 9]) (by kernel_rfl) (by simp) ?_
    refine AllReadyH.cons rfl (fun K hK => ?_) (AllReadyH.cons rfl (fun K hK => ?_) AllReadyH.nil)
    · go_simp
      refine hK.out _ _ (by refine ⟨?_, ?_, ?_⟩ <;> go_simp) (fun hH2 => ?_)
      clear hK K
      refine wpAnyH_ready (rs := [5, 9]) (by kernel_rfl) (by simp) ?_
      refine AllReadyH.cons rfl (fun K hK => ?_) (AllReadyH.cons rfl (fun K hK => ?_) AllReadyH.nil)
      · refine step_append_made _ (by rfl) _ _ _ (by rfl) (w.heap.size + 2) 21 i0 _ 1 4 Tryd.underlying23 hi hz0 hz1 hz2 rfl (by omega) ⟨w.heap.size + 2, 0, none⟩ 0 0 [] (by rfl) (by first | exact ownsRow_empty _ _ (by simp) (by omega) | exact ownsRow_empty2 _ _ _ (by simp) (by omega)) ⟨mb, mo, none⟩ xs.length cap (xs.map (Value.int .i32)) (by rfl) hlen (Hn.out.news' (by repeat (first | exact Below.refl _ _ | exact Nat.le_refl _ | apply Below.drew | (refine Below.alloc ?_ (by simp <;> omega) _)))) (one_i32 xs) hml hby (by simp <;> omega) ?_
        intro g cap' w1 hown hgrow
        refine hK.out _ _ (by refine ⟨?_, ?_, ?_⟩ <;> (rw [hgrow.cell_far _ (by simp <;> omega) (by simp <;> omega)]; go_simp)) (fun hH5 => ?_)
        clear hK K
        try simp only [Act.put, List.setIfInBounds_toArray, List.set_cons_zero, List.set_cons_succ]
        rw [Nat.zero_add, List.nil_append] at hown
        rw [Nat.zero_add]
        have hs1 := hgrow.size
        simp at hs1
        refine hd_take (i := 8) (some 17) (v := ?v8x1) rfl rfl (by kernel_rfl) (by kernel_rfl) (by kernel_rfl) (fun _ _ _ h => h) (by rfl) ?h8x1 (by assumption) ?r8x1
        case h8x1 =>
          intro w hSw
          (try dsimp only at hSw)
          go_simp
          (try with_reducible rfl)
        try simp only [Act.put, List.setIfInBounds_toArray, List.set_cons_zero, List.set_cons_succ]
        refine wpAnyH_ready (rs := [9]) (by kernel_rfl) (by simp) ?_
        refine AllReadyH.cons rfl (fun K hK => ?_) AllReadyH.nil
        go_simp
        refine hK.out _ _ (by refine ⟨?_, ?_, ?_⟩ <;> (rw [World.cell?_alloc_past _ _ _ (by omega)]; first | exact hH5.1 | exact hH5.2.1 | exact hH5.2.2)) (fun hH9 => ?_)
        clear hK K
        refine wpAnyH_ready (rs := [10]) (by kernel_rfl) (by simp) ?_
        refine AllReadyH.cons rfl (fun K hK => ?_) AllReadyH.nil
        go_simp
        refine hK.out _ _ (by refine ⟨?_, ?_, ?_⟩ <;> (rw [World.cell?_alloc_past _ _ _ (by omega)]; first | exact hH5.1 | exact hH5.2.1 | exact hH5.2.2)) (fun hH10 => ?_)
        clear hK K
        refine wpAnyH_done (by kernel_rfl) ?_ _
        go_wp2_with fail
        go_meet
        case rel => exact ⟨_, g, cap', rfl, head_new w _ w1 g cap' pc (.slice (some ⟨mb, mo, none⟩) xs.length cap) xs 0 hown hgrow (by repeat (first | exact Below.refl _ _ | exact Nat.le_refl _ | apply Below.drew | (refine Below.alloc ?_ (by simp <;> omega) _))) (by simp <;> omega) (by simp <;> omega) (fun i => by go_simp) (fun i => by go_simp) (fun i => by go_simp)⟩
      · go_simp
        refine hK.out _ _ (by refine ⟨?_, ?_, ?_⟩ <;> go_simp) (fun hH9 => ?_)
        clear hK K
        refine wpAnyH_ready (rs := [5]) (by kernel_rfl) (by simp) ?_
        refine AllReadyH.cons rfl (fun K hK => ?_) AllReadyH.nil
        refine step_append_made _ (by rfl) _ _ _ (by rfl) (w.heap.size + 2) 21 i0 _ 1 4 Tryd.underlying23 hi hz0 hz1 hz2 rfl (by omega) ⟨w.heap.size + 2, 0, none⟩ 0 0 [] (by rfl) (by first | exact ownsRow_empty _ _ (by simp) (by omega) | exact ownsRow_empty2 _ _ _ (by simp) (by omega)) ⟨mb, mo, none⟩ xs.length cap (xs.map (Value.int .i32)) (by rfl) hlen (Hn.out.news' (by repeat (first | exact Below.refl _ _ | exact Nat.le_refl _ | apply Below.drew | (refine Below.alloc ?_ (by simp <;> omega) _)))) (one_i32 xs) hml hby (by simp <;> omega) ?_
        intro g cap' w1 hown hgrow
        refine hK.out _ _ (by refine ⟨?_, ?_, ?_⟩ <;> (rw [hgrow.cell_far _ (by simp <;> omega) (by simp <;> omega)]; go_simp)) (fun hH5 => ?_)
        clear hK K
        try simp only [Act.put, List.setIfInBounds_toArray, List.set_cons_zero, List.set_cons_succ]
        rw [Nat.zero_add, List.nil_append] at hown
        rw [Nat.zero_add]
        have hs1 := hgrow.size
        simp at hs1
        have o0 : ∀ i, w1.cell? ⟨w.heap.size + 3, i, none⟩ = #[Value.int .i64 0, .slice none 0 0, .int .i64 0][i]? := fun i => (hgrow.cell_far _ (by simp <;> omega) (by simp <;> omega)).trans (by go_simp)
        have of : ∀ i, w1.frozen? ⟨w.heap.size + 3, i, none⟩ = false := fun i => (hgrow.frozen_far _ (by simp <;> omega) (by simp <;> omega)).trans (by go_simp)
        refine hd_take (i := 8) (some 17) (v := ?v8x2) rfl rfl (by kernel_rfl) (by kernel_rfl) (by kernel_rfl) (fun _ _ _ h => h) (by rfl) ?h8x2 (by assumption) ?r8x2
        case h8x2 =>
          intro w hSw
          (try dsimp only at hSw)
          go_simp
          (try with_reducible rfl)
        try simp only [Act.put, List.setIfInBounds_toArray, List.set_cons_zero, List.set_cons_succ]
        refine wpAnyH_ready (rs := [10]) (by kernel_rfl) (by simp) ?_
        refine AllReadyH.cons rfl (fun K hK => ?_) AllReadyH.nil
        go_simp
        refine hK.out _ _ (by refine ⟨?_, ?_, ?_⟩ <;> (rw [World.cell?_setCell_far _ _ _ _ (by simp <;> omega), World.cell?_setCell_far _ _ _ _ (by simp <;> omega), World.cell?_setCell_far _ _ _ _ (by simp <;> omega)]; first | exact hH5.1 | exact hH5.2.1 | exact hH5.2.2)) (fun hH10 => ?_)
        clear hK K
        refine wpAnyH_done (by kernel_rfl) ?_ _
        go_wp2_with fail
        go_meet
        case rel => exact ⟨_, g, cap', rfl, head_old w _ w1 _ _ g cap' pc (.slice (some ⟨mb, mo, none⟩) xs.length cap) xs 0 hown hgrow (by repeat (first | exact Below.refl _ _ | exact Nat.le_refl _ | apply Below.drew | (refine Below.alloc ?_ (by simp <;> omega) _))) (by simp <;> omega) (by simp <;> omega) (by simp <;> omega) (by simp <;> omega) (by simp <;> omega) (fun i => by go_simp) (fun i => by go_simp) (fun i => by go_simp) (by first | exact heap_at1 _ _ _ (by simp) | exact heap_at2 _ _ _ _ (by simp))⟩
    · go_simp
      refine hK.out _ _ (by refine ⟨?_, ?_, ?_⟩ <;> go_simp) (fun hH9 => ?_)
      clear hK K
      refine wpAnyH_ready (rs := [2]) (by kernel_rfl) (by simp) ?_
      refine AllReadyH.cons rfl (fun K hK => ?_) AllReadyH.nil
      go_simp
      refine hK.out _ _ (by refine ⟨?_, ?_, ?_⟩ <;> go_simp) (fun hH2 => ?_)
      clear hK K
      refine wpAnyH_ready (rs := [5]) (by kernel_rfl) (by simp) ?_
      refine AllReadyH.cons rfl (fun K hK => ?_) AllReadyH.nil
      refine step_append_made _ (by rfl) _ _ _ (by rfl) (w.heap.size + 2) 21 i0 _ 1 4 Tryd.underlying23 hi hz0 hz1 hz2 rfl (by omega) ⟨w.heap.size + 3, 0, none⟩ 0 0 [] (by rfl) (by first | exact ownsRow_empty _ _ (by simp) (by omega) | exact ownsRow_empty2 _ _ _ (by simp) (by omega)) ⟨mb, mo, none⟩ xs.length cap (xs.map (Value.int .i32)) (by rfl) hlen (Hn.out.news' (by repeat (first | exact Below.refl _ _ | exact Nat.le_refl _ | apply Below.drew | (refine Below.alloc ?_ (by simp <;> omega) _)))) (one_i32 xs) hml hby (by simp <;> omega) ?_
      intro g cap' w1 hown hgrow
      refine hK.out _ _ (by refine ⟨?_, ?_, ?_⟩ <;> (rw [hgrow.cell_far _ (by simp <;> omega) (by simp <;> omega)]; go_simp)) (fun hH5 => ?_)
      clear hK K
      try simp only [Act.put, List.setIfInBounds_toArray, List.set_cons_zero, List.set_cons_succ]
      rw [Nat.zero_add, List.nil_append] at hown
      rw [Nat.zero_add]
      have hs1 := hgrow.size
      simp at hs1
      have o0 : ∀ i, w1.cell? ⟨w.heap.size + 2, i, none⟩ = #[Value.int .i64 0, .slice none 0 0, .int .i64 0][i]? := fun i => (hgrow.cell_far _ (by simp <;> omega) (by simp <;> omega)).trans (by go_simp)
      have of : ∀ i, w1.frozen? ⟨w.heap.size + 2, i, none⟩ = false := fun i => (hgrow.frozen_far _ (by simp <;> omega) (by simp <;> omega)).trans (by go_simp)
      refine hd_take (i := 8) (some 17) (v := ?v8x3) rfl rfl (by kernel_rfl) (by kernel_rfl) (by kernel_rfl) (fun _ _ _ h => h) (by rfl) ?h8x3 (by assumption) ?r8x3
      case h8x3 =>
        intro w hSw
        (try dsimp only at hSw)
        go_simp
        (try with_reducible rfl)
      try simp only [Act.put, List.setIfInBounds_toArray, List.set_cons_zero, List.set_cons_succ]
      refine wpAnyH_ready (rs := [10]) (by kernel_rfl) (by simp) ?_
      refine AllReadyH.cons rfl (fun K hK => ?_) AllReadyH.nil
      go_simp
      refine hK.out _ _ (by refine ⟨?_, ?_, ?_⟩ <;> (rw [World.cell?_setCell_far _ _ _ _ (by simp <;> omega), World.cell?_setCell_far _ _ _ _ (by simp <;> omega), World.cell?_setCell_far _ _ _ _ (by simp <;> omega)]; first | exact hH5.1 | exact hH5.2.1 | exact hH5.2.2)) (fun hH10 => ?_)
      clear hK K
      refine wpAnyH_done (by kernel_rfl) ?_ _
      go_wp2_with fail
      go_meet
      case rel => exact ⟨_, g, cap', rfl, head_old w _ w1 _ _ g cap' pc (.slice (some ⟨mb, mo, none⟩) xs.length cap) xs 0 hown hgrow (by repeat (first | exact Below.refl _ _ | exact Nat.le_refl _ | apply Below.drew | (refine Below.alloc ?_ (by simp <;> omega) _))) (by simp <;> omega) (by simp <;> omega) (by simp <;> omega) (by simp <;> omega) (by simp <;> omega) (fun i => by go_simp) (fun i => by go_simp) (fun i => by go_simp) (by first | exact heap_at1 _ _ _ (by simp) | exact heap_at2 _ _ _ _ (by simp))⟩
  case rest =>
    obtain ⟨pb, g, cap', rfl, hH⟩ := hcut
    have HH := Lib.hid hH
    have bx := hH.box
    clear hH
    go_wp2_with fail
    refine (rright_any pc 0 _ _ _ _).mono ?_
    rintro e w1 ⟨rfl, hb1⟩
    have hs0 := HH.out.below.size
    have hpb := HH.out.lpb
    have hlp := HH.out.lp
    have bx1 : ∀ i, w1.cell? ⟨w.heap.size, i, none⟩ = #[Value.int .i64 pc, .slice (some ⟨mb, mo, none⟩) xs.length cap, .int .i64 0][i]? := fun i => (hb1.cell (p := ⟨w.heap.size, i, none⟩) (by show w.heap.size < _; omega)).trans (bx i)
    have HB1 := Lib.hid hb1
    clear bx hb1
    rw [Hr.out]
    go_wp2_with fail
    refine (rnext_yes pc _ _ _ l cv _ _ Hr.out ((Hc.out.below HH.out.below (Nat.le_refl _)).below HB1.out (Nat.le_refl _)) hll Hi.out).mono ?_
    rintro e w2 ⟨rfl, hb2⟩
    have hs1 := HB1.out.size
    have hs2 := hb2.size
    have HM2 : Hid (MSt w2 pb g cap' pc xs 0) := Lib.hid ((HH.out.st.below hx0 HB1.out).below hx0 hb2)
    have HB2 : Hid (Below w.heap.size w w2) := Lib.hid ((HH.out.below.trans (HB1.out.mono (by omega))).trans (hb2.mono (by omega)))
    have bx2 : ∀ i, w2.cell? ⟨w.heap.size, i, none⟩ = #[Value.int .i64 pc, .slice (some ⟨mb, mo, none⟩) xs.length cap, .int .i64 0][i]? := fun i => (hb2.cell (p := ⟨w.heap.size, i, none⟩) (by show w.heap.size < _; omega)).trans (bx1 i)
    have rs2 : ∀ i, w2.cell? ⟨w.heap.size + 1, i, none⟩ = #[Value.int .i64 0, .slice none 0 0, .int .i64 0][i]? := fun i => (hb2.cell (p := ⟨w.heap.size + 1, i, none⟩) (by show w.heap.size + 1 < _; omega)).trans ((HB1.out.cell (p := ⟨w.heap.size + 1, i, none⟩) (by show w.heap.size + 1 < _; omega)).trans (HH.out.res i))
    have fr2 : ∀ i, w2.frozen? ⟨w.heap.size + 1, i, none⟩ = false := fun i => (hb2.frozen (p := ⟨w.heap.size + 1, i, none⟩) (by show w.heap.size + 1 < _; omega)).trans ((HB1.out.frozen (p := ⟨w.heap.size + 1, i, none⟩) (by show w.heap.size + 1 < _; omega)).trans (HH.out.fres i))
    have mem2 : Hid (∀ k x, xs[k]? = some x → w2.cell? ⟨mb, mo + k, none⟩ = some (.int .i32 x)) := Lib.hid fun k x hx => (HB2.out.cell (p := ⟨mb, mo + k, none⟩) lm).trans (Hk.out k x hx)
    have lr2 : w.heap.size + 1 < w2.heap.size := by omega
    have lb2 : w.heap.size < w2.heap.size := by omega
    have lp2 : pb < w2.heap.size := by omega
    have lg2 : g < w2.heap.size := by have := HH.out.lgb; omega
    have lm2 : mb < w2.heap.size := by omega
    have hlw := lm
    have hpg := HH.out.st.ne
    have hlg := HH.out.lg
    have hlp' := HH.out.lp
    have q0 := HM2.out.st.c0
    have q1 := HM2.out.st.c1
    have q2 := HM2.out.st.c2
    have zp := HM2.out.fp
    have zg := HM2.out.fm
    clear bx1 hb2 hs0 hs1 hs2 hpb hlp
    go_upto_region 12 with (fail)
    obtain ⟨W, hW⟩ : ∃ W, W = (w2.setCell ⟨pb, 0, none⟩ (.int .i64 ((pc : Int) + 1))).alloc (.cells #[.int .i64 17, .int .i64 a, .int .i64 b, .int .i64 c] 58) := ⟨_, rfl⟩
    rw [← hW]
    obtain ⟨HM, HB, bxW, rsW, frW, memW, inW, szW⟩ := rdy HM2.out HB2.out hx0 bx2 rs2 fr2 mem2.out lm HH.out.lp lp2 lg2 hW
    replace HM := Lib.hid HM
    replace HB := Lib.hid HB
    replace memW := Lib.hid memW
    clear hW bx2 rs2 fr2 mem2 HM2 HB2 q0 q1 q2 zp zg
    have q0 := HM.out.st.c0
    have q1 := HM.out.st.c1
    have q2 := HM.out.st.c2
    have zp := HM.out.fp
    have zg := HM.out.fm
    generalize w2.heap.size = ib at *
    have lgW : g < W.heap.size := by omega
    have hbp : ¬ w.heap.size = pb := by omega
    have hbg : ¬ w.heap.size = g := by omega
    have hrp : ¬ w.heap.size + 1 = pb := by omega
    have hrg : ¬ w.heap.size + 1 = g := by omega
    have hig : ¬ ib = g := by omega
    have hip : ¬ ib = pb := by omega
    have hmp : ¬ mb = pb := by omega
    have hmg : ¬ mb = g := by omega
    have rda := memW.out a _ (gx_at (show a < xs.length by omega))
    have la : (a : Int) < (xs.length : Int) := by omega
    obtain ⟨xa, ga⟩ : ∃ xa, W.cell? ⟨g, a, none⟩ = some xa := ⟨_, HM.out.cells a _ (gx_at (show a < xs.length by omega))⟩
    have lda : (a : Int) < (xs.length : Int) := by omega
    have B_a : -2147483648 ≤ gx xs a ∧ gx xs a ≤ 2147483647 := hW.gx (by omega)
    have key : Hid (∀ v', v' = min (max (gx xs a) b) c → MSt (W.setCell ⟨g, a, none⟩ (.int .i32 v')) pb g cap' (pc + 1) (wx xs a (min (max (gx xs a) b) c)) 0) := Lib.hid (by rintro _ rfl; exact HM.out.setMem (by omega) _)
    go_wp2
    all_goals
      refine bodyPost_ret (v := .agg #[.int .i64 ((pc : Int) + 1), .slice (some ⟨g, 0, none⟩) xs.length cap', .int .i64 0]) (by simp [results, Tryd.results17, go_sem, *]) rfl ?_
      exact fin (key.out _ (by omega)) (HB.out.setCell (by show w.heap.size ≤ g; omega) _) HH.out.lk hx0 (wx_len _ _ _) hlg
end Go.Proofs.YteecpkkgjioplaaDoor

/- baizeref15.Step: rstep_15n -/
namespace Go.Proofs.YteecpkkgjioplaaDoor
open Go.RowKit Go

set_option linter.unusedSimpArgs false in
set_option linter.unusedVariables false in
set_option maxRecDepth 100000 in
set_option maxHeartbeats 4000000 in
theorem rstep_15n (pc : Nat) (ad : Addr) (cap : Nat) (xs : List Int) (cv : Value) (l : List Ins) (a b c : Int) (w : World) (h : I32s w (.slice (some ad) xs.length cap) xs) (hl : xs.length ≤ 300) (hr : rightSt pc xs.length 0 = true) (hc : InsS w cv l) (hll : l.length ≤ 300) (hW : W32 xs) (hi' : nextP l pc xs.length = some ⟨15, a, b, c⟩) (hff : farI ⟨15, a, b, c⟩ xs = -1) :
    Calls Tryd.prog 17 #[cv, .agg #[.int .i64 pc, .slice (some ad) xs.length cap, .int .i64 0]] w fun e w' => StPost w (pc, xs, 2) e w' := by
  obtain ⟨i0, hi, hz0, hz1, hz2⟩ := info_parts info21
  have hlen : (xs.map (Value.int .i32)).length = xs.length * 1 := by simp
  have hml : 0 + xs.length ≤ maxLen := by unfold maxLen; omega
  have hby : (0 + xs.length) * 4 ≤ 140737488355328 := by omega
  obtain ⟨hri, hpc⟩ := nextP_right hi'
  simp only [Int.toNat_natCast] at hri hpc
  have hx0 : 0 < xs.length := by have := (rightSt_iff.1 hr).1; omega
  obtain ⟨ha0, ha1, hb0, hb1, hc0, hc1⟩ := right_www (by simp) hri
  obtain ⟨a, rfl⟩ := Int.eq_ofNat_of_zero_le ha0
  obtain ⟨b, rfl⟩ := Int.eq_ofNat_of_zero_le hb0
  obtain ⟨c, rfl⟩ := Int.eq_ofNat_of_zero_le hc0
  have HF := Lib.hid hff
  clear hff
  obtain ⟨mb, mo, rfl, lm, hk⟩ := h.look hx0
  have Hk := Lib.hid hk
  have Hn := Lib.hid h
  have Hr := Lib.hid hr
  have Hri := Lib.hid hri
  have Hc := Lib.hid hc
  have Hi := Lib.hid hi'
  have pc0 : (pc : Int) ≤ 300 := by omega
  clear h hr hc hi' hri hk
  go_enter Tryd.func17, Tryd.ntmps17
  go_upto_region 1 with (fail)
  go_cut [5] (fun v5 wc => ∃ pb g cap', v5 = .pointer (some ⟨pb, 0, none⟩) ∧ Head w wc pb g cap' pc (.slice (some ⟨mb, mo, none⟩) xs.length cap) xs 0)
  case first =>
    refine wp_region_held_drew (S := fun w' => w'.cell? ⟨w.heap.size, 0, none⟩ = some (.int .i64 pc) ∧ w'.cell? ⟨w.heap.size, 1, none⟩ = some (.slice (some ⟨mb, mo, none⟩) xs.length cap) ∧ w'.cell? ⟨w.heap.size, 2, none⟩ = some (.int .i64 0)) (by kernel_rfl) (by refine ⟨?_, ?_, ?_⟩ <;> go_simp) (fun hHeld => ?_)
    refine hd_take (i := 0) (some 9) (v := ?v0) rfl rfl (by kernel_rfl) (by kernel_rfl) (by kernel_rfl) (fun _ _ _ h => h) (by rfl) ?h0 (by assumption) ?r0
    case h0 =>
      intro w hSw
      (try dsimp only at hSw)
      go_simp
      (try with_reducible rfl)
    try simp only [Act.put, List.setIfInBounds_toArray, List.set_cons_zero, List.set_cons_succ]
    refine hd_take (i := 1) (some 10) (v := ?v1) rfl rfl (by kernel_rfl) (by kernel_rfl) (by kernel_rfl) (fun _ _ _ h => h) (by rfl) ?h1 (by assumption) ?r1
    case h1 =>
      intro w hSw
      (try dsimp only at hSw)
      go_simp
      (try with_reducible rfl)
    try simp only [Act.put, List.setIfInBounds_toArray, List.set_cons_zero, List.set_cons_succ]
    refine hd_take (i := 3) (some 12) (v := ?v3) rfl rfl (by kernel_rfl) (by kernel_rfl) (by kernel_rfl) (fun _ _ _ h => h) (by rfl) ?h3 (by assumption) ?r3
    case h3 =>
      intro w hSw
      (try dsimp only at hSw)
      go_simp
      (try with_reducible rfl)
    try simp only [Act.put, List.setIfInBounds_toArray, List.set_cons_zero, List.set_cons_succ]
    refine hd_take (i := 4) (some 13) (v := ?v4) rfl rfl (by kernel_rfl) (by kernel_rfl) (by kernel_rfl) (fun _ _ _ h => h) (by rfl) ?h4 (by assumption) ?r4
    case h4 =>
      intro w hSw
      (try dsimp only at hSw)
      go_simp
      (try with_reducible rfl)
    try simp only [Act.put, List.setIfInBounds_toArray, List.set_cons_zero, List.set_cons_succ]
    refine hd_take (i := 6) (some 15) (v := ?v6) rfl rfl (by kernel_rfl) (by kernel_rfl) (by kernel_rfl) (fun _ _ _ h => h) (by rfl) ?h6 (by assumption) ?r6
    case h6 =>
      intro w hSw
      (try dsimp only at hSw)
      go_simp
      (try with_reducible rfl)
    try simp only [Act.put, List.setIfInBounds_toArray, List.set_cons_zero, List.set_cons_succ]
    refine hd_take (i := 7) (some 16) (v := ?v7) rfl rfl (by kernel_rfl) (by kernel_rfl) (by kernel_rfl) (fun _ _ _ h => h) (by rfl) ?h7 (by assumption) ?r7
    case h7 =>
      intro w hSw
      (try dsimp only at hSw)
      go_simp
      (try with_reducible rfl)
    try simp only [Act.put, List.setIfInBounds_toArray, List.set_cons_zero, List.set_cons_succ]
    refine wpAnyH_ready (rs := [2, 9]) (by kernel_rfl) (by simp) ?_
    refine AllReadyH.cons rfl (fun K hK => ?_) (AllReadyH.cons rfl (fun K hK => ?_) AllReadyH.nil)
    · go_simp
      refine hK.out _ _ (by refine ⟨?_, ?_, ?_⟩ <;> go_simp) (fun hH2 => ?_)
      clear hK K
      refine wpAnyH_ready (rs := [5, 9]) (by kernel_rfl) (by simp) ?_
      refine AllReadyH.cons rfl (fun K hK => ?_) (AllReadyH.cons rfl (fun K hK => ?_) AllReadyH.nil)
      · refine step_append_made _ (by rfl) _ _ _ (by rfl) (w.heap.size + 2) 21 i0 _ 1 4 Tryd.underlying23 hi hz0 hz1 hz2 rfl (by omega) ⟨w.heap.size + 2, 0, none⟩ 0 0 [] (by rfl) (by first | exact ownsRow_empty _ _ (by simp) (by omega) | exact ownsRow_empty2 _ _ _ (by simp) (by omega)) ⟨mb, mo, none⟩ xs.length cap (xs.map (Value.int .i32)) (by rfl) hlen (Hn.out.news' (by repeat (first | exact Below.refl _ _ | exact Nat.le_refl _ | apply Below.drew | (refine Below.alloc ?_ (by simp <;> omega) _)))) (one_i32 xs) hml hby (by simp <;> omega) ?_
        intro g cap' w1 hown hgrow
        refine hK.out _ _ (by refine ⟨?_, ?_, ?_⟩ <;> (rw [hgrow.cell_far _ (by simp <;> omega) (by simp <;> omega)]; go_simp)) (fun hH5 => ?_)
        clear hK K
        try simp only [Act.put, List.setIfInBounds_toArray, List.set_cons_zero, List.set_cons_succ]
        rw [Nat.zero_add, List.nil_append] at hown
        rw [Nat.zero_add]
        have hs1 := hgrow.size
        simp at hs1
        refine hd_take (i := 8) (some 17) (v := ?v8x1) rfl rfl (by kernel_rfl) (by kernel_rfl) (by kernel_rfl) (fun _ _ _ h => h) (by rfl) ?h8x1 (by assumption) ?r8x1
        case h8x1 =>
          intro w hSw
          (try dsimp only at hSw)
          go_simp
          (try with_reducible rfl)
        try simp only [Act.put, List.setIfInBounds_toArray, List.set_cons_zero, List.set_cons_succ]
        refine wpAnyH_ready (rs := [9]) (by kernel_rfl) (by simp) ?_
        refine AllReadyH.cons rfl (fun K hK => ?_) AllReadyH.nil
        go_simp
        refine hK.out _ _ (by refine ⟨?_, ?_, ?_⟩ <;> (rw [World.cell?_alloc_past _ _ _ (by omega)]; first | exact hH5.1 | exact hH5.2.1 | exact hH5.2.2)) (fun hH9 => ?_)
        clear hK K
        refine wpAnyH_ready (rs := [10]) (by kernel_rfl) (by simp) ?_
        refine AllReadyH.cons rfl (fun K hK => ?_) AllReadyH.nil
        go_simp
        refine hK.out _ _ (by refine ⟨?_, ?_, ?_⟩ <;> (rw [World.cell?_alloc_past _ _ _ (by omega)]; first | exact hH5.1 | exact hH5.2.1 | exact hH5.2.2)) (fun hH10 => ?_)
        clear hK K
        refine wpAnyH_done (by kernel_rfl) ?_ _
        go_wp2_with fail
        go_meet
        case rel => exact ⟨_, g, cap', rfl, head_new w _ w1 g cap' pc (.slice (some ⟨mb, mo, none⟩) xs.length cap) xs 0 hown hgrow (by repeat (first | exact Below.refl _ _ | exact Nat.le_refl _ | apply Below.drew | (refine Below.alloc ?_ (by simp <;> omega) _))) (by simp <;> omega) (by simp <;> omega) (fun i => by go_simp) (fun i => by go_simp) (fun i => by go_simp)⟩
      · go_simp
        refine hK.out _ _ (by refine ⟨?_, ?_, ?_⟩ <;> go_simp) (fun hH9 => ?_)
        clear hK K
        refine wpAnyH_ready (rs := [5]) (by kernel_rfl) (by simp) ?_
        refine AllReadyH.cons rfl (fun K hK => ?_) AllReadyH.nil
        refine step_append_made _ (by rfl) _ _ _ (by rfl) (w.heap.size + 2) 21 i0 _ 1 4 Tryd.underlying23 hi hz0 hz1 hz2 rfl (by omega) ⟨w.heap.size + 2, 0, none⟩ 0 0 [] (by rfl) (by first | exact ownsRow_empty _ _ (by simp) (by omega) | exact ownsRow_empty2 _ _ _ (by simp) (by omega)) ⟨mb, mo, none⟩ xs.length cap (xs.map (Value.int .i32)) (by rfl) hlen (Hn.out.news' (by repeat (first | exact Below.refl _ _ | exact Nat.le_refl _ | apply Below.drew | (refine Below.alloc ?_ (by simp <;> omega) _)))) (one_i32 xs) hml hby (by simp <;> omega) ?_
        intro g cap' w1 hown hgrow
        refine hK.out _ _ (by refine ⟨?_, ?_, ?_⟩ <;> (rw [hgrow.cell_far _ (by simp <;> omega) (by simp <;> omega)]; go_simp)) (fun hH5 => ?_)
        clear hK K
        try simp only [Act.put, List.setIfInBounds_toArray, List.set_cons_zero, List.set_cons_succ]
        rw [Nat.zero_add, List.nil_append] at hown
        rw [Nat.zero_add]
        have hs1 := hgrow.size
        simp at hs1
        have o0 : ∀ i, w1.cell? ⟨w.heap.size + 3, i, none⟩ = #[Value.int .i64 0, .slice none 0 0, .int .i64 0][i]? := fun i => (hgrow.cell_far _ (by simp <;> omega) (by simp <;> omega)).trans (by go_simp)
        have of : ∀ i, w1.frozen? ⟨w.heap.size + 3, i, none⟩ = false := fun i => (hgrow.frozen_far _ (by simp <;> omega) (by simp <;> omega)).trans (by go_simp)
        refine hd_take (i := 8) (some 17) (v := ?v8x2) rfl rfl (by kernel_rfl) (by kernel_rfl) (by kernel_rfl) (fun _ _ _ h => h) (by rfl) ?h8x2 (by assumption) ?r8x2
        case h8x2 =>
          intro w hSw
          (try dsimp only at hSw)
          go_simp
          (try with_reducible rfl)
        try simp only [Act.put, List.setIfInBounds_toArray, List.set_cons_zero, List.set_cons_succ]
        refine wpAnyH_ready (rs := [10]) (by kernel_rfl) (by simp) ?_
        refine AllReadyH.cons rfl (fun K hK => ?_) AllReadyH.nil
        go_simp
        refine hK.out _ _ (by refine ⟨?_, ?_, ?_⟩ <;> (rw [World.cell?_setCell_far _ _ _ _ (by simp <;> omega), World.cell?_setCell_far _ _ _ _ (by simp <;> omega), World.cell?_setCell_far _ _ _ _ (by simp <;> omega)]; first | exact hH5.1 | exact hH5.2.1 | exact hH5.2.2)) (fun hH10 => ?_)
        clear hK K
        refine wpAnyH_done (by kernel_rfl) ?_ _
        go_wp2_with fail
        go_meet
        case rel => exact ⟨_, g, cap', rfl, head_old w _ w1 _ _ g cap' pc (.slice (some ⟨mb, mo, none⟩) xs.length cap) xs 0 hown hgrow (by repeat (first | exact Below.refl _ _ | exact Nat.le_refl _ | apply Below.drew | (refine Below.alloc ?_ (by simp <;> omega) _))) (by simp <;> omega) (by simp <;> omega) (by simp <;> omega) (by simp <;> omega) (by simp <;> omega) (fun i => by go_simp) (fun i => by go_simp) (fun i => by go_simp) (by first | exact heap_at1 _ _ _ (by simp) | exact heap_at2 _ _ _ _ (by simp))⟩
    · go_simp
      refine hK.out _ _ (by refine ⟨?_, ?_, ?_⟩ <;> go_simp) (fun hH9 => ?_)
      clear hK K
      refine wpAnyH_ready (rs := [2]) (by kernel_rfl) (by simp) ?_
      refine AllReadyH.cons rfl (fun K hK => ?_) AllReadyH.nil
      go_simp
      refine hK.out _ _ (by refine ⟨?_, ?_, ?_⟩ <;> go_simp) (fun hH2 => ?_)
      clear hK K
      refine wpAnyH_ready (rs := [5]) (by kernel_rfl) (by simp) ?_
      refine AllReadyH.cons rfl (fun K hK => ?_) AllReadyH.nil
      refine step_append_made _ (by rfl) _ _ _ (by rfl) (w.heap.size + 2) 21 i0 _ 1 4 Tryd.underlying23 hi hz0 hz1 hz2 rfl (by omega) ⟨w.heap.size + 3, 0, none⟩ 0 0 [] (by rfl) (by first | exact ownsRow_empty _ _ (by simp) (by omega) | exact ownsRow_empty2 _ _ _ (by simp) (by omega)) ⟨mb, mo, none⟩ xs.length cap (xs.map (Value.int .i32)) (by rfl) hlen (Hn.out.news' (by repeat (first | exact Below.refl _ _ | exact Nat.le_refl _ | apply Below.drew | (refine Below.alloc ?_ (by simp <;> omega) _)))) (one_i32 xs) hml hby (by simp <;> omega) ?_
      intro g cap' w1 hown hgrow
      refine hK.out _ _ (by refine ⟨?_, ?_, ?_⟩ <;> (rw [hgrow.cell_far _ (by simp <;> omega) (by simp <;> omega)]; go_simp)) (fun hH5 => ?_)
      clear hK K
      try simp only [Act.put, List.setIfInBounds_toArray, List.set_cons_zero, List.set_cons_succ]
      rw [Nat.zero_add, List.nil_append] at hown
      rw [Nat.zero_add]
      have hs1 := hgrow.size
      simp at hs1
      have o0 : ∀ i, w1.cell? ⟨w.heap.size + 2, i, none⟩ = #[Value.int .i64 0, .slice none 0 0, .int .i64 0][i]? := fun i => (hgrow.cell_far _ (by simp <;> omega) (by simp <;> omega)).trans (by go_simp)
      have of : ∀ i, w1.frozen? ⟨w.heap.size + 2, i, none⟩ = false := fun i => (hgrow.frozen_far _ (by simp <;> omega) (by simp <;> omega)).trans (by go_simp)
      refine hd_take (i := 8) (some 17) (v := ?v8x3) rfl rfl (by kernel_rfl) (by kernel_rfl) (by kernel_rfl) (fun _ _ _ h => h) (by rfl) ?h8x3 (by assumption) ?r8x3
      case h8x3 =>
        intro w hSw
        (try dsimp only at hSw)
        go_simp
        (try with_reducible rfl)
      try simp only [Act.put, List.setIfInBounds_toArray, List.set_cons_zero, List.set_cons_succ]
      refine wpAnyH_ready (rs := [10]) (by kernel_rfl) (by simp) ?_
      refine AllReadyH.cons rfl (fun K hK => ?_) AllReadyH.nil
      go_simp
      refine hK.out _ _ (by refine ⟨?_, ?_, ?_⟩ <;> (rw [World.cell?_setCell_far _ _ _ _ (by simp <;> omega), World.cell?_setCell_far _ _ _ _ (by simp <;> omega), World.cell?_setCell_far _ _ _ _ (by simp <;> omega)]; first | exact hH5.1 | exact hH5.2.1 | exact hH5.2.2)) (fun hH10 => ?_)
      clear hK K
      refine wpAnyH_done (by kernel_rfl) ?_ _
      go_wp2_with fail
      go_meet
      case rel => exact ⟨_, g, cap', rfl, head_old w _ w1 _ _ g cap' pc (.slice (some ⟨mb, mo, none⟩) xs.length cap) xs 0 hown hgrow (by repeat (first | exact Below.refl _ _ | exact Nat.le_refl _ | apply Below.drew | (refine Below.alloc ?_ (by simp <;> omega) _))) (by simp <;> omega) (by simp <;> omega) (by simp <;> omega) (by simp <;> omega) (by simp <;> omega) (fun i => by go_simp) (fun i => by go_simp) (fun i => by go_simp) (by first | exact heap_at1 _ _ _ (by simp) | exact heap_at2 _ _ _ _ (by simp))⟩
  case rest =>
    obtain ⟨pb, g, cap', rfl, hH⟩ := hcut
    have HH := Lib.hid hH
    have bx := hH.box
    clear hH
    go_wp2_with fail
    refine (rright_any pc 0 _ _ _ _).mono ?_
    rintro e w1 ⟨rfl, hb1⟩
    have hs0 := HH.out.below.size
    have hpb := HH.out.lpb
    have hlp := HH.out.lp
    have bx1 : ∀ i, w1.cell? ⟨w.heap.size, i, none⟩ = #[Value.int .i64 pc, .slice (some ⟨mb, mo, none⟩) xs.length cap, .int .i64 0][i]? := fun i => (hb1.cell (p := ⟨w.heap.size, i, none⟩) (by show w.heap.size < _; omega)).trans (bx i)
    have HB1 := Lib.hid hb1
    clear bx hb1
    rw [Hr.out]
    go_wp2_with fail
    refine (rnext_yes pc _ _ _ l cv _ _ Hr.out ((Hc.out.below HH.out.below (Nat.le_refl _)).below HB1.out (Nat.le_refl _)) hll Hi.out).mono ?_
    rintro e w2 ⟨rfl, hb2⟩
    have hs1 := HB1.out.size
    have hs2 := hb2.size
    have HM2 : Hid (MSt w2 pb g cap' pc xs 0) := Lib.hid ((HH.out.st.below hx0 HB1.out).below hx0 hb2)
    have HB2 : Hid (Below w.heap.size w w2) := Lib.hid ((HH.out.below.trans (HB1.out.mono (by omega))).trans (hb2.mono (by omega)))
    have bx2 : ∀ i, w2.cell? ⟨w.heap.size, i, none⟩ = #[Value.int .i64 pc, .slice (some ⟨mb, mo, none⟩) xs.length cap, .int .i64 0][i]? := fun i => (hb2.cell (p := ⟨w.heap.size, i, none⟩) (by show w.heap.size < _; omega)).trans (bx1 i)
    have rs2 : ∀ i, w2.cell? ⟨w.heap.size + 1, i, none⟩ = #[Value.int .i64 0, .slice none 0 0, .int .i64 0][i]? := fun i => (hb2.cell (p := ⟨w.heap.size + 1, i, none⟩) (by show w.heap.size + 1 < _; omega)).trans ((HB1.out.cell (p := ⟨w.heap.size + 1, i, none⟩) (by show w.heap.size + 1 < _; omega)).trans (HH.out.res i))
    have fr2 : ∀ i, w2.frozen? ⟨w.heap.size + 1, i, none⟩ = false := fun i => (hb2.frozen (p := ⟨w.heap.size + 1, i, none⟩) (by show w.heap.size + 1 < _; omega)).trans ((HB1.out.frozen (p := ⟨w.heap.size + 1, i, none⟩) (by show w.heap.size + 1 < _; omega)).trans (HH.out.fres i))
    have mem2 : Hid (∀ k x, xs[k]? = some x → w2.cell? ⟨mb, mo + k, none⟩ = some (.int .i32 x)) := Lib.hid fun k x hx => (HB2.out.cell (p := ⟨mb, mo + k, none⟩) lm).trans (Hk.out k x hx)
    have lr2 : w.heap.size + 1 < w2.heap.size := by omega
    have lb2 : w.heap.size < w2.heap.size := by omega
    have lp2 : pb < w2.heap.size := by omega
    have lg2 : g < w2.heap.size := by have := HH.out.lgb; omega
    have lm2 : mb < w2.heap.size := by omega
    have hlw := lm
    have hpg := HH.out.st.ne
    have hlg := HH.out.lg
    have hlp' := HH.out.lp
    have q0 := HM2.out.st.c0
    have q1 := HM2.out.st.c1
    have q2 := HM2.out.st.c2
    have zp := HM2.out.fp
    have zg := HM2.out.fm
    clear bx1 hb2 hs0 hs1 hs2 hpb hlp
    go_upto_region 5 with (fail)
    obtain ⟨V, hE⟩ : ∃ V, V = w2.alloc (.cells #[.int .i64 15, .int .i64 a, .int .i64 b, .int .i64 c] 58) := ⟨_, rfl⟩
    rw [← hE]
    have R : Rdy w V w2.heap.size pb g cap' pc pc mb mo cap xs 15 a b c := by rw [hE]; exact Rdy.mk0 HM2.out HB2.out hx0 bx2 rs2 fr2 mem2.out lm HH.out.lp HH.out.lg lp2 lg2
    clear hE bx2 rs2 fr2 mem2 HM2 HB2 q0 q1 q2 zp zg lr2 lb2 lp2 lg2 lm2
    generalize w2.heap.size = ib at *
    replace R := Lib.hid R
    have bxV := R.out.box
    have inV := R.out.ins
    go_wp2_with fail
    refine (place_any ⟨15, a, b, c⟩ (some ⟨mb, mo, none⟩) cap pc 0 _ xs _ (Hn.out.below R.out.below (Nat.le_refl _)) (by simp) Hri.out hl hW).mono ?_
    rintro e w3 ⟨rfl, hb3⟩
    rw [HF.out]
    replace R := Lib.hid (R.out.to hx0 hb3)
    clear bxV inV hb3
    have bxV := R.out.box
    have inV := R.out.ins
    have rsV := R.out.res
    have frV := R.out.fres
    have q0 := R.out.st.st.c0
    have q1 := R.out.st.st.c1
    have q2 := R.out.st.st.c2
    have zp := R.out.st.fp
    have zg := R.out.st.fm
    have libV := R.out.lib
    have lpbV := R.out.lpb
    have lgbV := R.out.lgb
    have hli := R.out.li
    have hip := R.out.hip
    have hbp : ¬ w.heap.size = pb := by omega
    have hbg : ¬ w.heap.size = g := by omega
    have hrp : ¬ w.heap.size + 1 = pb := by omega
    have hrg : ¬ w.heap.size + 1 = g := by omega
    have hmp : ¬ mb = pb := by omega
    have hmg : ¬ mb = g := by omega
    go_wp2
    refine bodyPost_ret (v := .agg #[.int .i64 (pc), .slice (some ⟨g, 0, none⟩) xs.length cap', .int .i64 (2)]) (by simp [results, Tryd.results17, go_sem, *]) rfl ?_
    exact fin (R.out.st.setHalt 2) (R.out.below.setCell (by show w.heap.size ≤ pb; omega) _) HH.out.lk hx0 rfl hlg
end Go.Proofs.YteecpkkgjioplaaDoor

/- baizeref15.Step: rstep_16n -/
namespace Go.Proofs.YteecpkkgjioplaaDoor
open Go.RowKit Go

set_option linter.unusedSimpArgs false in
set_option linter.unusedVariables false in
set_option maxRecDepth 100000 in
set_option maxHeartbeats 4000000 in
theorem rstep_16n (pc : Nat) (ad : Addr) (cap : Nat) (xs : List Int) (cv : Value) (l : List Ins) (a b c : Int) (w : World) (h : I32s w (.slice (some ad) xs.length cap) xs) (hl : xs.length ≤ 300) (hr : rightSt pc xs.length 0 = true) (hc : InsS w cv l) (hll : l.length ≤ 300) (hW : W32 xs) (hi' : nextP l pc xs.length = some ⟨16, a, b, c⟩) (hff : farI ⟨16, a, b, c⟩ xs = -1) :
    Calls Tryd.prog 17 #[cv, .agg #[.int .i64 pc, .slice (some ad) xs.length cap, .int .i64 0]] w fun e w' => StPost w (pc, xs, 2) e w' := by
  obtain ⟨i0, hi, hz0, hz1, hz2⟩ := info_parts info21
  have hlen : (xs.map (Value.int .i32)).length = xs.length * 1 := by simp
  have hml : 0 + xs.length ≤ maxLen := by unfold maxLen; omega
  have hby : (0 + xs.length) * 4 ≤ 140737488355328 := by omega
  obtain ⟨hri, hpc⟩ := nextP_right hi'
  simp only [Int.toNat_natCast] at hri hpc
  have hx0 : 0 < xs.length := by have := (rightSt_iff.1 hr).1; omega
  obtain ⟨ha0, ha1, hb0, hb1, hc0, hc1⟩ := right_www (by simp) hri
  obtain ⟨a, rfl⟩ := Int.eq_ofNat_of_zero_le ha0
  obtain ⟨b, rfl⟩ := Int.eq_ofNat_of_zero_le hb0
  obtain ⟨c, rfl⟩ := Int.eq_ofNat_of_zero_le hc0
  have HF := Lib.hid hff
  clear hff
  obtain ⟨mb, mo, rfl, lm, hk⟩ := h.look hx0
  have Hk := Lib.hid hk
  have Hn := Lib.hid h
  have Hr := Lib.hid hr
  have Hri := Lib.hid hri
  have Hc := Lib.hid hc
  have Hi := Lib.hid hi'
  have pc0 : (pc : Int) ≤ 300 := by omega
  clear h hr hc hi' hri hk
  go_enter Tryd.func17, Tryd.ntmps17
  go_upto_region 1 with (fail)
  go_cut [5] (fun v5 wc => ∃ pb g cap', v5 = .pointer (some ⟨pb, 0, none⟩) ∧ Head w wc pb g cap' pc (.slice (some ⟨mb, mo, none⟩) xs.length cap) xs 0)
  case first =>
    refine wp_region_held_drew (S := fun w' => w'.cell? ⟨w.heap.size, 0, none⟩ = some (.int .i64 pc) ∧ w'.cell? ⟨w.heap.size, 1, none⟩ = some (.slice (some ⟨mb, mo, none⟩) xs.length cap) ∧ w'.cell? ⟨w.heap.size, 2, none⟩ = some (.int .i64 0)) (by kernel_rfl) (by refine ⟨?_, ?_, ?_⟩ <;> go_simp) (fun hHeld => ?_)
    refine hd_take (i := 0) (some 9) (v := ?v0) rfl rfl (by kernel_rfl) (by kernel_rfl) (by kernel_rfl) (fun _ _ _ h => h) (by rfl) ?h0 (by assumption) ?r0
    case h0 =>
      intro w hSw
      (try dsimp only at hSw)
      go_simp
      (try with_reducible rfl)
    try simp only [Act.put, List.setIfInBounds_toArray, List.set_cons_zero, List.set_cons_succ]
    refine hd_take (i := 1) (some 10) (v := ?v1) rfl rfl (by kernel_rfl) (by kernel_rfl) (by kernel_rfl) (fun _ _ _ h => h) (by rfl) ?h1 (by assumption) ?r1
    case h1 =>
      intro w hSw
      (try dsimp only at hSw)
      go_simp
      (try with_reducible rfl)
    try simp only [Act.put, List.setIfInBounds_toArray, List.set_cons_zero, List.set_cons_succ]
    refine hd_take (i := 3) (some 12) (v := ?v3) rfl rfl (by kernel_rfl) (by kernel_rfl) (by kernel_rfl) (fun _ _ _ h => h) (by rfl) ?h3 (by assumption) ?r3
    case h3 =>
      intro w hSw
      (try dsimp only at hSw)
      go_simp
      (try with_reducible rfl)
    try simp only [Act.put, List.setIfInBounds_toArray, List.set_cons_zero, List.set_cons_succ]
    refine hd_take (i := 4) (some 13) (v := ?v4) rfl rfl (by kernel_rfl) (by kernel_rfl) (by kernel_rfl) (fun _ _ _ h => h) (by rfl) ?h4 (by assumption) ?r4
    case h4 =>
      intro w hSw
      (try dsimp only at hSw)
      go_simp
      (try with_reducible rfl)
    try simp only [Act.put, List.setIfInBounds_toArray, List.set_cons_zero, List.set_cons_succ]
    refine hd_take (i := 6) (some 15) (v := ?v6) rfl rfl (by kernel_rfl) (by kernel_rfl) (by kernel_rfl) (fun _ _ _ h => h) (by rfl) ?h6 (by assumption) ?r6
    case h6 =>
      intro w hSw
      (try dsimp only at hSw)
      go_simp
      (try with_reducible rfl)
    try simp only [Act.put, List.setIfInBounds_toArray, List.set_cons_zero, List.set_cons_succ]
    refine hd_take (i := 7) (some 16) (v := ?v7) rfl rfl (by kernel_rfl) (by kernel_rfl) (by kernel_rfl) (fun _ _ _ h => h) (by rfl) ?h7 (by assumption) ?r7
    case h7 =>
      intro w hSw
      (try dsimp only at hSw)
      go_simp
      (try with_reducible rfl)
    try simp only [Act.put, List.setIfInBounds_toArray, List.set_cons_zero, List.set_cons_succ]
    refine wpAnyH_ready (rs := [2, 9]) (by kernel_rfl) (by simp) ?_
    refine AllReadyH.cons rfl (fun K hK => ?_) (AllReadyH.cons rfl (fun K hK => ?_) AllReadyH.nil)
    · go_simp
      refine hK.out _ _ (by refine ⟨?_, ?_, ?_⟩ <;> go_simp) (fun hH2 => ?_)
      clear hK K
      refine wpAnyH_ready (rs := [5, 9]) (by kernel_rfl) (by simp) ?_
      refine AllReadyH.cons rfl (fun K hK => ?_) (AllReadyH.cons rfl (fun K hK => ?_) AllReadyH.nil)
      · refine step_append_made _ (by rfl) _ _ _ (by rfl) (w.heap.size + 2) 21 i0 _ 1 4 Tryd.underlying23 hi hz0 hz1 hz2 rfl (by omega) ⟨w.heap.size + 2, 0, none⟩ 0 0 [] (by rfl) (by first | exact ownsRow_empty _ _ (by simp) (by omega) | exact ownsRow_empty2 _ _ _ (by simp) (by omega)) ⟨mb, mo, none⟩ xs.length cap (xs.map (Value.int .i32)) (by rfl) hlen (Hn.out.news' (by repeat (first | exact Below.refl _ _ | exact Nat.le_refl _ | apply Below.drew | (refine Below.alloc ?_ (by simp <;> omega) _)))) (one_i32 xs) hml hby (by simp <;> omega) ?_
        intro g cap' w1 hown hgrow
        refine hK.out _ _ (by refine ⟨?_, ?_, ?_⟩ <;> (rw [hgrow.cell_far _ (by simp <;> omega) (by simp <;> omega)]; go_simp)) (fun hH5 => ?_)
        clear hK K
        try simp only [Act.put, List.setIfInBounds_toArray, List.set_cons_zero, List.set_cons_succ]
        rw [Nat.zero_add, List.nil_append] at hown
        rw [Nat.zero_add]
        have hs1 := hgrow.size
        simp at hs1
        refine hd_take (i := 8) (some 17) (v := ?v8x1) rfl rfl (by kernel_rfl) (by kernel_rfl) (by kernel_rfl) (fun _ _ _ h => h) (by rfl) ?h8x1 (by assumption) ?r8x1
        case h8x1 =>
          intro w hSw
          (try dsimp only at hSw)
          go_simp
          (try with_reducible rfl)
        try simp only [Act.put, List.setIfInBounds_toArray, List.set_cons_zero, List.set_cons_succ]
        refine wpAnyH_ready (rs := [9]) (by kernel_rfl) (by simp) ?_
        refine AllReadyH.cons rfl (fun K hK => ?_) AllReadyH.nil
        go_simp
        refine hK.out _ _ (by refine ⟨?_, ?_, ?_⟩ <;> (rw [World.cell?_alloc_past _ _ _ (by omega)]; first | exact hH5.1 | exact hH5.2.1 | exact hH5.2.2)) (fun hH9 => ?_)
        clear hK K
        refine wpAnyH_ready (rs := [10]) (by kernel_rfl) (by simp) ?_
        refine AllReadyH.cons rfl (fun K hK => ?_) AllReadyH.nil
        go_simp
        refine hK.out _ _ (by refine ⟨?_, ?_, ?_⟩ <;> (rw [World.cell?_alloc_past _ _ _ (by omega)]; first | exact hH5.1 | exact hH5.2.1 | exact hH5.2.2)) (fun hH10 => ?_)
        clear hK K
        refine wpAnyH_done (by kernel_rfl) ?_ _
        go_wp2_with fail
        go_meet
        case rel => exact ⟨_, g, cap', rfl, head_new w _ w1 g cap' pc (.slice (some ⟨mb, mo, none⟩) xs.length cap) xs 0 hown hgrow (by repeat (first | exact Below.refl _ _ | exact Nat.le_refl _ | apply Below.drew | (refine Below.alloc ?_ (by simp <;> omega) _))) (by simp <;> omega) (by simp <;> omega) (fun i => by go_simp) (fun i => by go_simp) (fun i => by go_simp)⟩
      · go_simp
        refine hK.out _ _ (by refine ⟨?_, ?_, ?_⟩ <;> go_simp) (fun hH9 => ?_)
        clear hK K
        refine wpAnyH_ready (rs := [5]) (by kernel_rfl) (by simp) ?_
        refine AllReadyH.cons rfl (fun K hK => ?_) AllReadyH.nil
        refine step_append_made _ (by rfl) _ _ _ (by rfl) (w.heap.size + 2) 21 i0 _ 1 4 Tryd.underlying23 hi hz0 hz1 hz2 rfl (by omega) ⟨w.heap.size + 2, 0, none⟩ 0 0 [] (by rfl) (by first | exact ownsRow_empty _ _ (by simp) (by omega) | exact ownsRow_empty2 _ _ _ (by simp) (by omega)) ⟨mb, mo, none⟩ xs.length cap (xs.map (Value.int .i32)) (by rfl) hlen (Hn.out.news' (by repeat (first | exact Below.refl _ _ | exact Nat.le_refl _ | apply Below.drew | (refine Below.alloc ?_ (by simp <;> omega) _)))) (one_i32 xs) hml hby (by simp <;> omega) ?_
        intro g cap' w1 hown hgrow
        refine hK.out _ _ (by refine ⟨?_, ?_, ?_⟩ <;> (rw [hgrow.cell_far _ (by simp <;> omega) (by simp <;> omega)]; go_simp)) (fun hH5 => ?_)
        clear hK K
        try simp only [Act.put, List.setIfInBounds_toArray, List.set_cons_zero, List.set_cons_succ]
        rw [Nat.zero_add, List.nil_append] at hown
        rw [Nat.zero_add]
        have hs1 := hgrow.size
        simp at hs1
        have o0 : ∀ i, w1.cell? ⟨w.heap.size + 3, i, none⟩ = #[Value.int .i64 0, .slice none 0 0, .int .i64 0][i]? := fun i => (hgrow.cell_far _ (by simp <;> omega) (by simp <;> omega)).trans (by go_simp)
        have of : ∀ i, w1.frozen? ⟨w.heap.size + 3, i, none⟩ = false := fun i => (hgrow.frozen_far _ (by simp <;> omega) (by simp <;> omega)).trans (by go_simp)
        refine hd_take (i := 8) (some 17) (v := ?v8x2) rfl rfl (by kernel_rfl) (by kernel_rfl) (by kernel_rfl) (fun _ _ _ h => h) (by rfl) ?h8x2 (by assumption) ?r8x2
        case h8x2 =>
          intro w hSw
          (try dsimp only at hSw)
          go_simp
          (try with_reducible rfl)
        try simp only [Act.put, List.setIfInBounds_toArray, List.set_cons_zero, List.set_cons_succ]
        refine wpAnyH_ready (rs := [10]) (by kernel_rfl) (by simp) ?_
        refine AllReadyH.cons rfl (fun K hK => ?_) AllReadyH.nil
        go_simp
        refine hK.out _ _ (by refine ⟨?_, ?_, ?_⟩ <;> (rw [World.cell?_setCell_far _ _ _ _ (by simp <;> omega), World.cell?_setCell_far _ _ _ _ (by simp <;> omega), World.cell?_setCell_far _ _ _ _ (by simp <;> omega)]; first | exact hH5.1 | exact hH5.2.1 | exact hH5.2.2)) (fun hH10 => ?_)
        clear hK K
        refine wpAnyH_done (by kernel_rfl) ?_ _
        go_wp2_with fail
        go_meet
        case rel => exact ⟨_, g, cap', rfl, head_old w _ w1 _ _ g cap' pc (.slice (some ⟨mb, mo, none⟩) xs.length cap) xs 0 hown hgrow (by repeat (first | exact Below.refl _ _ | exact Nat.le_refl _ | apply Below.drew | (refine Below.alloc ?_ (by simp <;> omega) _))) (by simp <;> omega) (by simp <;> omega) (by simp <;> omega) (by simp <;> omega) (by simp <;> omega) (fun i => by go_simp) (fun i => by go_simp) (fun i => by go_simp) (by first | exact heap_at1 _ _ _ (by simp) | exact heap_at2 _ _ _ _ (by simp))⟩
    · go_simp
      refine hK.out _ _ (by refine ⟨?_, ?_, ?_⟩ <;> go_simp) (fun hH9 => ?_)
      clear hK K
      refine wpAnyH_ready (rs := [2]) (by kernel_rfl) (by simp) ?_
      refine AllReadyH.cons rfl (fun K hK => ?_) AllReadyH.nil
      go_simp
      refine hK.out _ _ (by refine ⟨?_, ?_, ?_⟩ <;> go_simp) (fun hH2 => ?_)
      clear hK K
      refine wpAnyH_ready (rs := [5]) (by kernel_rfl) (by simp) ?_
      refine AllReadyH.cons rfl (fun K hK => ?_) AllReadyH.nil
      refine step_append_made _ (by rfl) _ _ _ (by rfl) (w.heap.size + 2) 21 i0 _ 1 4 Tryd.underlying23 hi hz0 hz1 hz2 rfl (by omega) ⟨w.heap.size + 3, 0, none⟩ 0 0 [] (by rfl) (by first | exact ownsRow_empty _ _ (by simp) (by omega) | exact ownsRow_empty2 _ _ _ (by simp) (by omega)) ⟨mb, mo, none⟩ xs.length cap (xs.map (Value.int .i32)) (by rfl) hlen (Hn.out.news' (by repeat (first | exact Below.refl _ _ | exact Nat.le_refl _ | apply Below.drew | (refine Below.alloc ?_ (by simp <;> omega) _)))) (one_i32 xs) hml hby (by simp <;> omega) ?_
      intro g cap' w1 hown hgrow
      refine hK.out _ _ (by refine ⟨?_, ?_, ?_⟩ <;> (rw [hgrow.cell_far _ (by simp <;> omega) (by simp <;> omega)]; go_simp)) (fun hH5 => ?_)
      clear hK K
      try simp only [Act.put, List.setIfInBounds_toArray, List.set_cons_zero, List.set_cons_succ]
      rw [Nat.zero_add, List.nil_append] at hown
      rw [Nat.zero_add]
      have hs1 := hgrow.size
      simp at hs1
      have o0 : ∀ i, w1.cell? ⟨w.heap.size + 2, i, none⟩ = #[Value.int .i64 0, .slice none 0 0, .int .i64 0][i]? := fun i => (hgrow.cell_far _ (by simp <;> omega) (by simp <;> omega)).trans (by go_simp)
      have of : ∀ i, w1.frozen? ⟨w.heap.size + 2, i, none⟩ = false := fun i => (hgrow.frozen_far _ (by simp <;> omega) (by simp <;> omega)).trans (by go_simp)
      refine hd_take (i := 8) (some 17) (v := ?v8x3) rfl rfl (by kernel_rfl) (by kernel_rfl) (by kernel_rfl) (fun _ _ _ h => h) (by rfl) ?h8x3 (by assumption) ?r8x3
      case h8x3 =>
        intro w hSw
        (try dsimp only at hSw)
        go_simp
        (try with_reducible rfl)
      try simp only [Act.put, List.setIfInBounds_toArray, List.set_cons_zero, List.set_cons_succ]
      refine wpAnyH_ready (rs := [10]) (by kernel_rfl) (by simp) ?_
      refine AllReadyH.cons rfl (fun K hK => ?_) AllReadyH.nil
      go_simp
      refine hK.out _ _ (by refine ⟨?_, ?_, ?_⟩ <;> (rw [World.cell?_setCell_far _ _ _ _ (by simp <;> omega), World.cell?_setCell_far _ _ _ _ (by simp <;> omega), World.cell?_setCell_far _ _ _ _ (by simp <;> omega)]; first | exact hH5.1 | exact hH5.2.1 | exact hH5.2.2)) (fun hH10 => ?_)
      clear hK K
      refine wpAnyH_done (by kernel_rfl) ?_ _
      go_wp2_with fail
      go_meet
      case rel => exact ⟨_, g, cap', rfl, head_old w _ w1 _ _ g cap' pc (.slice (some ⟨mb, mo, none⟩) xs.length cap) xs 0 hown hgrow (by repeat (first | exact Below.refl _ _ | exact Nat.le_refl _ | apply Below.drew | (refine Below.alloc ?_ (by simp <;> omega) _))) (by simp <;> omega) (by simp <;> omega) (by simp <;> omega) (by simp <;> omega) (by simp <;> omega) (fun i => by go_simp) (fun i => by go_simp) (fun i => by go_simp) (by first | exact heap_at1 _ _ _ (by simp) | exact heap_at2 _ _ _ _ (by simp))⟩
  case rest =>
    obtain ⟨pb, g, cap', rfl, hH⟩ := hcut
    have HH := Lib.hid hH
    have bx := hH.box
    clear hH
    go_wp2_with fail
    refine (rright_any pc 0 _ _ _ _).mono ?_
    rintro e w1 ⟨rfl, hb1⟩
    have hs0 := HH.out.below.size
    have hpb := HH.out.lpb
    have hlp := HH.out.lp
    have bx1 : ∀ i, w1.cell? ⟨w.heap.size, i, none⟩ = #[Value.int .i64 pc, .slice (some ⟨mb, mo, none⟩) xs.length cap, .int .i64 0][i]? := fun i => (hb1.cell (p := ⟨w.heap.size, i, none⟩) (by show w.heap.size < _; omega)).trans (bx i)
    have HB1 := Lib.hid hb1
    clear bx hb1
    rw [Hr.out]
    go_wp2_with fail
    refine (rnext_yes pc _ _ _ l cv _ _ Hr.out ((Hc.out.below HH.out.below (Nat.le_refl _)).below HB1.out (Nat.le_refl _)) hll Hi.out).mono ?_
    rintro e w2 ⟨rfl, hb2⟩
    have hs1 := HB1.out.size
    have hs2 := hb2.size
    have HM2 : Hid (MSt w2 pb g cap' pc xs 0) := Lib.hid ((HH.out.st.below hx0 HB1.out).below hx0 hb2)
    have HB2 : Hid (Below w.heap.size w w2) := Lib.hid ((HH.out.below.trans (HB1.out.mono (by omega))).trans (hb2.mono (by omega)))
    have bx2 : ∀ i, w2.cell? ⟨w.heap.size, i, none⟩ = #[Value.int .i64 pc, .slice (some ⟨mb, mo, none⟩) xs.length cap, .int .i64 0][i]? := fun i => (hb2.cell (p := ⟨w.heap.size, i, none⟩) (by show w.heap.size < _; omega)).trans (bx1 i)
    have rs2 : ∀ i, w2.cell? ⟨w.heap.size + 1, i, none⟩ = #[Value.int .i64 0, .slice none 0 0, .int .i64 0][i]? := fun i => (hb2.cell (p := ⟨w.heap.size + 1, i, none⟩) (by show w.heap.size + 1 < _; omega)).trans ((HB1.out.cell (p := ⟨w.heap.size + 1, i, none⟩) (by show w.heap.size + 1 < _; omega)).trans (HH.out.res i))
    have fr2 : ∀ i, w2.frozen? ⟨w.heap.size + 1, i, none⟩ = false := fun i => (hb2.frozen (p := ⟨w.heap.size + 1, i, none⟩) (by show w.heap.size + 1 < _; omega)).trans ((HB1.out.frozen (p := ⟨w.heap.size + 1, i, none⟩) (by show w.heap.size + 1 < _; omega)).trans (HH.out.fres i))
    have mem2 : Hid (∀ k x, xs[k]? = some x → w2.cell? ⟨mb, mo + k, none⟩ = some (.int .i32 x)) := Lib.hid fun k x hx => (HB2.out.cell (p := ⟨mb, mo + k, none⟩) lm).trans (Hk.out k x hx)
    have lr2 : w.heap.size + 1 < w2.heap.size := by omega
    have lb2 : w.heap.size < w2.heap.size := by omega
    have lp2 : pb < w2.heap.size := by omega
    have lg2 : g < w2.heap.size := by have := HH.out.lgb; omega
    have lm2 : mb < w2.heap.size := by omega
    have hlw := lm
    have hpg := HH.out.st.ne
    have hlg := HH.out.lg
    have hlp' := HH.out.lp
    have q0 := HM2.out.st.c0
    have q1 := HM2.out.st.c1
    have q2 := HM2.out.st.c2
    have zp := HM2.out.fp
    have zg := HM2.out.fm
    clear bx1 hb2 hs0 hs1 hs2 hpb hlp
    go_upto_region 5 with (fail)
    obtain ⟨V, hE⟩ : ∃ V, V = w2.alloc (.cells #[.int .i64 16, .int .i64 a, .int .i64 b, .int .i64 c] 58) := ⟨_, rfl⟩
    rw [← hE]
    have R : Rdy w V w2.heap.size pb g cap' pc pc mb mo cap xs 16 a b c := by rw [hE]; exact Rdy.mk0 HM2.out HB2.out hx0 bx2 rs2 fr2 mem2.out lm HH.out.lp HH.out.lg lp2 lg2
    clear hE bx2 rs2 fr2 mem2 HM2 HB2 q0 q1 q2 zp zg lr2 lb2 lp2 lg2 lm2
    generalize w2.heap.size = ib at *
    replace R := Lib.hid R
    have bxV := R.out.box
    have inV := R.out.ins
    go_wp2_with fail
    refine (place_any ⟨16, a, b, c⟩ (some ⟨mb, mo, none⟩) cap pc 0 _ xs _ (Hn.out.below R.out.below (Nat.le_refl _)) (by simp) Hri.out hl hW).mono ?_
    rintro e w3 ⟨rfl, hb3⟩
    rw [HF.out]
    replace R := Lib.hid (R.out.to hx0 hb3)
    clear bxV inV hb3
    have bxV := R.out.box
    have inV := R.out.ins
    have rsV := R.out.res
    have frV := R.out.fres
    have q0 := R.out.st.st.c0
    have q1 := R.out.st.st.c1
    have q2 := R.out.st.st.c2
    have zp := R.out.st.fp
    have zg := R.out.st.fm
    have libV := R.out.lib
    have lpbV := R.out.lpb
    have lgbV := R.out.lgb
    have hli := R.out.li
    have hip := R.out.hip
    have hbp : ¬ w.heap.size = pb := by omega
    have hbg : ¬ w.heap.size = g := by omega
    have hrp : ¬ w.heap.size + 1 = pb := by omega
    have hrg : ¬ w.heap.size + 1 = g := by omega
    have hmp : ¬ mb = pb := by omega
    have hmg : ¬ mb = g := by omega
    go_wp2
    refine bodyPost_ret (v := .agg #[.int .i64 (pc), .slice (some ⟨g, 0, none⟩) xs.length cap', .int .i64 (2)]) (by simp [results, Tryd.results17, go_sem, *]) rfl ?_
    exact fin (R.out.st.setHalt 2) (R.out.below.setCell (by show w.heap.size ≤ pb; omega) _) HH.out.lk hx0 rfl hlg
end Go.Proofs.YteecpkkgjioplaaDoor

/- baizeref15.Step: rstep_18y -/
namespace Go.Proofs.YteecpkkgjioplaaDoor
open Go.RowKit Go

set_option linter.unusedSimpArgs false in
set_option linter.unusedVariables false in
set_option maxRecDepth 100000 in
set_option maxHeartbeats 4000000 in
theorem rstep_18y (pc : Nat) (ad : Addr) (cap : Nat) (xs : List Int) (cv : Value) (l : List Ins) (a b c : Int) (w : World) (h : I32s w (.slice (some ad) xs.length cap) xs) (hl : xs.length ≤ 300) (hr : rightSt pc xs.length 0 = true) (hc : InsS w cv l) (hll : l.length ≤ 300) (hW : W32 xs) (hi' : nextP l pc xs.length = some ⟨18, a, b, c⟩) (q : Int) (hg : gx xs b = q) (hz0 : 0 ≤ q) :
    Calls Tryd.prog 17 #[cv, .agg #[.int .i64 pc, .slice (some ad) xs.length cap, .int .i64 0]] w fun e w' => StPost w ((pc : Int) + 1, wx xs a (truthP (decide (0 ≤ q) && decide (q < c))), 0) e w' := by
  obtain ⟨i0, hi, hz0, hz1, hz2⟩ := info_parts info21
  have hlen : (xs.map (Value.int .i32)).length = xs.length * 1 := by simp
  have hml : 0 + xs.length ≤ maxLen := by unfold maxLen; omega
  have hby : (0 + xs.length) * 4 ≤ 140737488355328 := by omega
  obtain ⟨hri, hpc⟩ := nextP_right hi'
  simp only [Int.toNat_natCast] at hri hpc
  have hx0 : 0 < xs.length := by have := (rightSt_iff.1 hr).1; omega
  obtain ⟨ha0, ha1, hb0, hb1, hcn⟩ := right_18 hri
  obtain ⟨a, rfl⟩ := Int.eq_ofNat_of_zero_le ha0
  obtain ⟨b, rfl⟩ := Int.eq_ofNat_of_zero_le hb0
  simp [numP] at hcn
  obtain ⟨hc0, hc1⟩ := hcn
  have HG := Lib.hid hg
  clear hg
  have hz : decide (0 ≤ q) = true := by simp; omega
  obtain ⟨mb, mo, rfl, lm, hk⟩ := h.look hx0
  have Hk := Lib.hid hk
  have Hn := Lib.hid h
  have Hr := Lib.hid hr
  have Hri := Lib.hid hri
  have Hc := Lib.hid hc
  have Hi := Lib.hid hi'
  have pc0 : (pc : Int) ≤ 300 := by omega
  clear h hr hc hi' hri hk
  go_enter Tryd.func17, Tryd.ntmps17
  go_upto_region 1 with (fail)
  go_cut [5] (fun v5 wc => ∃ pb g cap', v5 = .pointer (some ⟨pb, 0, none⟩) ∧ Head w wc pb g cap' pc (.slice (some ⟨mb, mo, none⟩) xs.length cap) xs 0)
  case first =>
    refine wp_region_held_drew (S := fun w' => w'.cell? ⟨w.heap.size, 0, none⟩ = some (.int .i64 pc) ∧ w'.cell? ⟨w.heap.size, 1, none⟩ = some (.slice (some ⟨mb, mo, none⟩) xs.length cap) ∧ w'.cell? ⟨w.heap.size, 2, none⟩ = some (.int .i64 0)) (by kernel_rfl) (by refine ⟨?_, ?_, ?_⟩ <;> go_simp) (fun hHeld => ?_)
    refine hd_take (i := 0) (some 9) (v := ?v0) rfl rfl (by kernel_rfl) (by kernel_rfl) (by kernel_rfl) (fun _ _ _ h => h) (by rfl) ?h0 (by assumption) ?r0
    case h0 =>
      intro w hSw
      (try dsimp only at hSw)
      go_simp
      (try with_reducible rfl)
    try simp only [Act.put, List.setIfInBounds_toArray, List.set_cons_zero, List.set_cons_succ]
    refine hd_take (i := 1) (some 10) (v := ?v1) rfl rfl (by kernel_rfl) (by kernel_rfl) (by kernel_rfl) (fun _ _ _ h => h) (by rfl) ?h1 (by assumption) ?r1
    case h1 =>
      intro w hSw
      (try dsimp only at hSw)
      go_simp
      (try with_reducible rfl)
    try simp only [Act.put, List.setIfInBounds_toArray, List.set_cons_zero, List.set_cons_succ]
    refine hd_take (i := 3) (some 12) (v := ?v3) rfl rfl (by kernel_rfl) (by kernel_rfl) (by kernel_rfl) (fun _ _ _ h => h) (by rfl) ?h3 (by assumption) ?r3
    case h3 =>
      intro w hSw
      (try dsimp only at hSw)
      go_simp
      (try with_reducible rfl)
    try simp only [Act.put, List.setIfInBounds_toArray, List.set_cons_zero, List.set_cons_succ]
    refine hd_take (i := 4) (some 13) (v := ?v4) rfl rfl (by kernel_rfl) (by kernel_rfl) (by kernel_rfl) (fun _ _ _ h => h) (by rfl) ?h4 (by assumption) ?r4
    case h4 =>
      intro w hSw
      (try dsimp only at hSw)
      go_simp
      (try with_reducible rfl)
    try simp only [Act.put, List.setIfInBounds_toArray, List.set_cons_zero, List.set_cons_succ]
    refine hd_take (i := 6) (some 15) (v := ?v6) rfl rfl (by kernel_rfl) (by kernel_rfl) (by kernel_rfl) (fun _ _ _ h => h) (by rfl) ?h6 (by assumption) ?r6
    case h6 =>
      intro w hSw
      (try dsimp only at hSw)
      go_simp
      (try with_reducible rfl)
    try simp only [Act.put, List.setIfInBounds_toArray, List.set_cons_zero, List.set_cons_succ]
    refine hd_take (i := 7) (some 16) (v := ?v7) rfl rfl (by kernel_rfl) (by kernel_rfl) (by kernel_rfl) (fun _ _ _ h => h) (by rfl) ?h7 (by assumption) ?r7
    case h7 =>
      intro w hSw
      (try dsimp only at hSw)
      go_simp
      (try with_reducible rfl)
    try simp only [Act.put, List.setIfInBounds_toArray, List.set_cons_zero, List.set_cons_succ]
    refine wpAnyH_ready (rs := [2, 9]) (by kernel_rfl) (by simp) ?_
    refine AllReadyH.cons rfl (fun K hK => ?_) (AllReadyH.cons rfl (fun K hK => ?_) AllReadyH.nil)
    · go_simp
      refine hK.out _ _ (by refine ⟨?_, ?_, ?_⟩ <;> go_simp) (fun hH2 => ?_)
      clear hK K
      refine wpAnyH_ready (rs := [5, 9]) (by kernel_rfl) (by simp) ?_
      refine AllReadyH.cons rfl (fun K hK => ?_) (AllReadyH.cons rfl (fun K hK => ?_) AllReadyH.nil)
      · refine step_append_made _ (by rfl) _ _ _ (by rfl) (w.heap.size + 2) 21 i0 _ 1 4 Tryd.underlying23 hi hz0 hz1 hz2 rfl (by omega) ⟨w.heap.size + 2, 0, none⟩ 0 0 [] (by rfl) (by first | exact ownsRow_empty _ _ (by simp) (by omega) | exact ownsRow_empty2 _ _ _ (by simp) (by omega)) ⟨mb, mo, none⟩ xs.length cap (xs.map (Value.int .i32)) (by rfl) hlen (Hn.out.news' (by repeat (first | exact Below.refl _ _ | exact Nat.le_refl _ | apply Below.drew | (refine Below.alloc ?_ (by simp <;> omega) _)))) (one_i32 xs) hml hby (by simp <;> omega) ?_
        intro g cap' w1 hown hgrow
        refine hK.out _ _ (by refine ⟨?_, ?_, ?_⟩ <;> (rw [hgrow.cell_far _ (by simp <;> omega) (by simp <;> omega)]; go_simp)) (fun hH5 => ?_)
        clear hK K
        try simp only [Act.put, List.setIfInBounds_toArray, List.set_cons_zero, List.set_cons_succ]
        rw [Nat.zero_add, List.nil_append] at hown
        rw [Nat.zero_add]
        have hs1 := hgrow.size
        simp at hs1
        refine hd_take (i := 8) (some 17) (v := ?v8x1) rfl rfl (by kernel_rfl) (by kernel_rfl) (by kernel_rfl) (fun _ _ _ h => h) (by rfl) ?h8x1 (by assumption) ?r8x1
        case h8x1 =>
          intro w hSw
          (try dsimp only at hSw)
          go_simp
          (try with_reducible rfl)
        try simp only [Act.put, List.setIfInBounds_toArray, List.set_cons_zero, List.set_cons_succ]
        refine wpAnyH_ready (rs := [9]) (by kernel_rfl) (by simp) ?_
        refine AllReadyH.cons rfl (fun K hK => ?_) AllReadyH.nil
        go_simp
        refine hK.out _ _ (by refine ⟨?_, ?_, ?_⟩ <;> (rw [World.cell?_alloc_past _ _ _ (by omega)]; first | exact hH5.1 | exact hH5.2.1 | exact hH5.2.2)) (fun hH9 => ?_)
        clear hK K
        refine wpAnyH_ready (rs := [10]) (by kernel_rfl) (by simp) ?_
        refine AllReadyH.cons rfl (fun K hK => ?_) AllReadyH.nil
        go_simp
        refine hK.out _ _ (by refine ⟨?_, ?_, ?_⟩ <;> (rw [World.cell?_alloc_past _ _ _ (by omega)]; first | exact hH5.1 | exact hH5.2.1 | exact hH5.2.2)) (fun hH10 => ?_)
        clear hK K
        refine wpAnyH_done (by kernel_rfl) ?_ _
        go_wp2_with fail
        go_meet
        case rel => exact ⟨_, g, cap', rfl, head_new w _ w1 g cap' pc (.slice (some ⟨mb, mo, none⟩) xs.length cap) xs 0 hown hgrow (by repeat (first | exact Below.refl _ _ | exact Nat.le_refl _ | apply Below.drew | (refine Below.alloc ?_ (by simp <;> omega) _))) (by simp <;> omega) (by simp <;> omega) (fun i => by go_simp) (fun i => by go_simp) (fun i => by go_simp)⟩
      · go_simp
        refine hK.out _ _ (by refine ⟨?_, ?_, ?_⟩ <;> go_simp) (fun hH9 => ?_)
        clear hK K
        refine wpAnyH_ready (rs := [5]) (by kernel_rfl) (by simp) ?_
        refine AllReadyH.cons rfl (fun K hK => ?_) AllReadyH.nil
        refine step_append_made _ (by rfl) _ _ _ (by rfl) (w.heap.size + 2) 21 i0 _ 1 4 Tryd.underlying23 hi hz0 hz1 hz2 rfl (by omega) ⟨w.heap.size + 2, 0, none⟩ 0 0 [] (by rfl) (by first | exact ownsRow_empty _ _ (by simp) (by omega) | exact ownsRow_empty2 _ _ _ (by simp) (by omega)) ⟨mb, mo, none⟩ xs.length cap (xs.map (Value.int .i32)) (by rfl) hlen (Hn.out.news' (by repeat (first | exact Below.refl _ _ | exact Nat.le_refl _ | apply Below.drew | (refine Below.alloc ?_ (by simp <;> omega) _)))) (one_i32 xs) hml hby (by simp <;> omega) ?_
        intro g cap' w1 hown hgrow
        refine hK.out _ _ (by refine ⟨?_, ?_, ?_⟩ <;> (rw [hgrow.cell_far _ (by simp <;> omega) (by simp <;> omega)]; go_simp)) (fun hH5 => ?_)
        clear hK K
        try simp only [Act.put, List.setIfInBounds_toArray, List.set_cons_zero, List.set_cons_succ]
        rw [Nat.zero_add, List.nil_append] at hown
        rw [Nat.zero_add]
        have hs1 := hgrow.size
        simp at hs1
        have o0 : ∀ i, w1.cell? ⟨w.heap.size + 3, i, none⟩ = #[Value.int .i64 0, .slice none 0 0, .int .i64 0][i]? := fun i => (hgrow.cell_far _ (by simp <;> omega) (by simp <;> omega)).trans (by go_simp)
        have of : ∀ i, w1.frozen? ⟨w.heap.size + 3, i, none⟩ = false := fun i => (hgrow.frozen_far _ (by simp <;> omega) (by simp <;> omega)).trans (by go_simp)
        refine hd_take (i := 8) (some 17) (v := ?v8x2) rfl rfl (by kernel_rfl) (by kernel_rfl) (by kernel_rfl) (fun _ _ _ h => h) (by rfl) ?h8x2 (by assumption) ?r8x2
        case h8x2 =>
          intro w hSw
          (try dsimp only at hSw)
          go_simp
          (try with_reducible rfl)
        try simp only [Act.put, List.setIfInBounds_toArray, List.set_cons_zero, List.set_cons_succ]
        refine wpAnyH_ready (rs := [10]) (by kernel_rfl) (by simp) ?_
        refine AllReadyH.cons rfl (fun K hK => ?_) AllReadyH.nil
        go_simp
        refine hK.out _ _ (by refine ⟨?_, ?_, ?_⟩ <;> (rw [World.cell?_setCell_far _ _ _ _ (by simp <;> omega), World.cell?_setCell_far _ _ _ _ (by simp <;> omega), World.cell?_setCell_far _ _ _ _ (by simp <;> omega)]; first | exact hH5.1 | exact hH5.2.1 | exact hH5.2.2)) (fun hH10 => ?_)
        clear hK K
        refine wpAnyH_done (by kernel_rfl) ?_ _
        go_wp2_with fail
        go_meet
        case rel => exact ⟨_, g, cap', rfl, head_old w _ w1 _ _ g cap' pc (.slice (some ⟨mb, mo, none⟩) xs.length cap) xs 0 hown hgrow (by repeat (first | exact Below.refl _ _ | exact Nat.le_refl _ | apply Below.drew | (refine Below.alloc ?_ (by simp <;> omega) _))) (by simp <;> omega) (by simp <;> omega) (by simp <;> omega) (by simp <;> omega) (by simp <;> omega) (fun i => by go_simp) (fun i => by go_simp) (fun i => by go_simp) (by first | exact heap_at1 _ _ _ (by simp) | exact heap_at2 _ _ _ _ (by simp))⟩
    · go_simp
      refine hK.out _ _ (by refine ⟨?_, ?_, ?_⟩ <;> go_simp) (fun hH9 => ?_)
      clear hK K
      refine wpAnyH_ready (rs := [2]) (by kernel_rfl) (by simp) ?_
      refine AllReadyH.cons rfl (fun K hK => ?_) AllReadyH.nil
      go_simp
      refine hK.out _ _ (by refine ⟨?_, ?_, ?_⟩ <;> go_simp) (fun hH2 => ?_)
      clear hK K
      refine wpAnyH_ready (rs := [5]) (by kernel_rfl) (by simp) ?_
      refine AllReadyH.cons rfl (fun K hK => ?_) AllReadyH.nil
      refine step_append_made _ (by rfl) _ _ _ (by rfl) (w.heap.size + 2) 21 i0 _ 1 4 Tryd.underlying23 hi hz0 hz1 hz2 rfl (by omega) ⟨w.heap.size + 3, 0, none⟩ 0 0 [] (by rfl) (by first | exact ownsRow_empty _ _ (by simp) (by omega) | exact ownsRow_empty2 _ _ _ (by simp) (by omega)) ⟨mb, mo, none⟩ xs.length cap (xs.map (Value.int .i32)) (by rfl) hlen (Hn.out.news' (by repeat (first | exact Below.refl _ _ | exact Nat.le_refl _ | apply Below.drew | (refine Below.alloc ?_ (by simp <;> omega) _)))) (one_i32 xs) hml hby (by simp <;> omega) ?_
      intro g cap' w1 hown hgrow
      refine hK.out _ _ (by refine ⟨?_, ?_, ?_⟩ <;> (rw [hgrow.cell_far _ (by simp <;> omega) (by simp <;> omega)]; go_simp)) (fun hH5 => ?_)
      clear hK K
      try simp only [Act.put, List.setIfInBounds_toArray, List.set_cons_zero, List.set_cons_succ]
      rw [Nat.zero_add, List.nil_append] at hown
      rw [Nat.zero_add]
      have hs1 := hgrow.size
      simp at hs1
      have o0 : ∀ i, w1.cell? ⟨w.heap.size + 2, i, none⟩ = #[Value.int .i64 0, .slice none 0 0, .int .i64 0][i]? := fun i => (hgrow.cell_far _ (by simp <;> omega) (by simp <;> omega)).trans (by go_simp)
      have of : ∀ i, w1.frozen? ⟨w.heap.size + 2, i, none⟩ = false := fun i => (hgrow.frozen_far _ (by simp <;> omega) (by simp <;> omega)).trans (by go_simp)
      refine hd_take (i := 8) (some 17) (v := ?v8x3) rfl rfl (by kernel_rfl) (by kernel_rfl) (by kernel_rfl) (fun _ _ _ h => h) (by rfl) ?h8x3 (by assumption) ?r8x3
      case h8x3 =>
        intro w hSw
        (try dsimp only at hSw)
        go_simp
        (try with_reducible rfl)
      try simp only [Act.put, List.setIfInBounds_toArray, List.set_cons_zero, List.set_cons_succ]
      refine wpAnyH_ready (rs := [10]) (by kernel_rfl) (by simp) ?_
      refine AllReadyH.cons rfl (fun K hK => ?_) AllReadyH.nil
      go_simp
      refine hK.out _ _ (by refine ⟨?_, ?_, ?_⟩ <;> (rw [World.cell?_setCell_far _ _ _ _ (by simp <;> omega), World.cell?_setCell_far _ _ _ _ (by simp <;> omega), World.cell?_setCell_far _ _ _ _ (by simp <;> omega)]; first | exact hH5.1 | exact hH5.2.1 | exact hH5.2.2)) (fun hH10 => ?_)
      clear hK K
      refine wpAnyH_done (by kernel_rfl) ?_ _
      go_wp2_with fail
      go_meet
      case rel => exact ⟨_, g, cap', rfl, head_old w _ w1 _ _ g cap' pc (.slice (some ⟨mb, mo, none⟩) xs.length cap) xs 0 hown hgrow (by repeat (first | exact Below.refl _ _ | exact Nat.le_refl _ | apply Below.drew | (refine Below.alloc ?_ (by simp <;> omega) _))) (by simp <;> omega) (by simp <;> omega) (by simp <;> omega) (by simp <;> omega) (by simp <;> omega) (fun i => by go_simp) (fun i => by go_simp) (fun i => by go_simp) (by first | exact heap_at1 _ _ _ (by simp) | exact heap_at2 _ _ _ _ (by simp))⟩
  case rest =>
    obtain ⟨pb, g, cap', rfl, hH⟩ := hcut
    have HH := Lib.hid hH
    have bx := hH.box
    clear hH
    go_wp2_with fail
    refine (rright_any pc 0 _ _ _ _).mono ?_
    rintro e w1 ⟨rfl, hb1⟩
    have hs0 := HH.out.below.size
    have hpb := HH.out.lpb
    have hlp := HH.out.lp
    have bx1 : ∀ i, w1.cell? ⟨w.heap.size, i, none⟩ = #[Value.int .i64 pc, .slice (some ⟨mb, mo, none⟩) xs.length cap, .int .i64 0][i]? := fun i => (hb1.cell (p := ⟨w.heap.size, i, none⟩) (by show w.heap.size < _; omega)).trans (bx i)
    have HB1 := Lib.hid hb1
    clear bx hb1
    rw [Hr.out]
    go_wp2_with fail
    refine (rnext_yes pc _ _ _ l cv _ _ Hr.out ((Hc.out.below HH.out.below (Nat.le_refl _)).below HB1.out (Nat.le_refl _)) hll Hi.out).mono ?_
    rintro e w2 ⟨rfl, hb2⟩
    have hs1 := HB1.out.size
    have hs2 := hb2.size
    have HM2 : Hid (MSt w2 pb g cap' pc xs 0) := Lib.hid ((HH.out.st.below hx0 HB1.out).below hx0 hb2)
    have HB2 : Hid (Below w.heap.size w w2) := Lib.hid ((HH.out.below.trans (HB1.out.mono (by omega))).trans (hb2.mono (by omega)))
    have bx2 : ∀ i, w2.cell? ⟨w.heap.size, i, none⟩ = #[Value.int .i64 pc, .slice (some ⟨mb, mo, none⟩) xs.length cap, .int .i64 0][i]? := fun i => (hb2.cell (p := ⟨w.heap.size, i, none⟩) (by show w.heap.size < _; omega)).trans (bx1 i)
    have rs2 : ∀ i, w2.cell? ⟨w.heap.size + 1, i, none⟩ = #[Value.int .i64 0, .slice none 0 0, .int .i64 0][i]? := fun i => (hb2.cell (p := ⟨w.heap.size + 1, i, none⟩) (by show w.heap.size + 1 < _; omega)).trans ((HB1.out.cell (p := ⟨w.heap.size + 1, i, none⟩) (by show w.heap.size + 1 < _; omega)).trans (HH.out.res i))
    have fr2 : ∀ i, w2.frozen? ⟨w.heap.size + 1, i, none⟩ = false := fun i => (hb2.frozen (p := ⟨w.heap.size + 1, i, none⟩) (by show w.heap.size + 1 < _; omega)).trans ((HB1.out.frozen (p := ⟨w.heap.size + 1, i, none⟩) (by show w.heap.size + 1 < _; omega)).trans (HH.out.fres i))
    have mem2 : Hid (∀ k x, xs[k]? = some x → w2.cell? ⟨mb, mo + k, none⟩ = some (.int .i32 x)) := Lib.hid fun k x hx => (HB2.out.cell (p := ⟨mb, mo + k, none⟩) lm).trans (Hk.out k x hx)
    have lr2 : w.heap.size + 1 < w2.heap.size := by omega
    have lb2 : w.heap.size < w2.heap.size := by omega
    have lp2 : pb < w2.heap.size := by omega
    have lg2 : g < w2.heap.size := by have := HH.out.lgb; omega
    have lm2 : mb < w2.heap.size := by omega
    have hlw := lm
    have hpg := HH.out.st.ne
    have hlg := HH.out.lg
    have hlp' := HH.out.lp
    have q0 := HM2.out.st.c0
    have q1 := HM2.out.st.c1
    have q2 := HM2.out.st.c2
    have zp := HM2.out.fp
    have zg := HM2.out.fm
    clear bx1 hb2 hs0 hs1 hs2 hpb hlp
    go_upto_region 12 with (fail)
    obtain ⟨W, hW⟩ : ∃ W, W = (w2.setCell ⟨pb, 0, none⟩ (.int .i64 ((pc : Int) + 1))).alloc (.cells #[.int .i64 18, .int .i64 a, .int .i64 b, .int .i64 c] 58) := ⟨_, rfl⟩
    rw [← hW]
    obtain ⟨HM, HB, bxW, rsW, frW, memW, inW, szW⟩ := rdy HM2.out HB2.out hx0 bx2 rs2 fr2 mem2.out lm HH.out.lp lp2 lg2 hW
    replace HM := Lib.hid HM
    replace HB := Lib.hid HB
    replace memW := Lib.hid memW
    clear hW bx2 rs2 fr2 mem2 HM2 HB2 q0 q1 q2 zp zg
    have q0 := HM.out.st.c0
    have q1 := HM.out.st.c1
    have q2 := HM.out.st.c2
    have zp := HM.out.fp
    have zg := HM.out.fm
    generalize w2.heap.size = ib at *
    have lgW : g < W.heap.size := by omega
    have hbp : ¬ w.heap.size = pb := by omega
    have hbg : ¬ w.heap.size = g := by omega
    have hrp : ¬ w.heap.size + 1 = pb := by omega
    have hrg : ¬ w.heap.size + 1 = g := by omega
    have hig : ¬ ib = g := by omega
    have hip : ¬ ib = pb := by omega
    have hmp : ¬ mb = pb := by omega
    have hmg : ¬ mb = g := by omega
    have rdb := memW.out b _ (gx_at (show b < xs.length by omega))
    rw [HG.out] at rdb
    obtain ⟨g0, g1⟩ : -2147483648 ≤ q ∧ q ≤ 2147483647 := by rw [← HG.out]; exact hW.gx (by omega)
    have lb : (b : Int) < (xs.length : Int) := by omega
    obtain ⟨xa, ga⟩ : ∃ xa, W.cell? ⟨g, a, none⟩ = some xa := ⟨_, HM.out.cells a _ (gx_at (show a < xs.length by omega))⟩
    have lda : (a : Int) < (xs.length : Int) := by omega
    have key : Hid (∀ v', v' = truthP (decide (0 ≤ q) && decide (q < c)) → MSt (W.setCell ⟨g, a, none⟩ (.int .i32 v')) pb g cap' (pc + 1) (wx xs a (truthP (decide (0 ≤ q) && decide (q < c)))) 0) := Lib.hid (by rintro _ rfl; exact HM.out.setMem (by omega) _)
    go_wp2_with fail
    go_still_tail 24, (by kernel_rfl)
    still_call ((rtruth_any _ _).mono (by rintro e w' ⟨rfl, rfl⟩; exact ⟨rfl, rfl⟩))
    repeat still_step
    try refine wpStill_nil ?_
    have Hz := Lib.hid hz
    go_wp2
    refine bodyPost_ret (v := .agg #[.int .i64 ((pc : Int) + 1), .slice (some ⟨g, 0, none⟩) xs.length cap', .int .i64 (0)]) (by simp [results, Tryd.results17, go_sem, *]) rfl ?_
    refine StPost.drew ?_
    exact fin (key.out _ (by rw [Hz.out]; simp)) (HB.out.setCell (by show w.heap.size ≤ g; omega) _) HH.out.lk hx0 (wx_len _ _ _) hlg
end Go.Proofs.YteecpkkgjioplaaDoor

/- baizeref15.Step: rstep_18n -/
namespace Go.Proofs.YteecpkkgjioplaaDoor
open Go.RowKit Go

attribute [local irreducible] Go.wpStill
set_option linter.unusedSimpArgs false in
set_option linter.unusedVariables false in
set_option maxRecDepth 100000 in
set_option maxHeartbeats 4000000 in
theorem rstep_18n (pc : Nat) (ad : Addr) (cap : Nat) (xs : List Int) (cv : Value) (l : List Ins) (a b c : Int) (w : World) (h : I32s w (.slice (some ad) xs.length cap) xs) (hl : xs.length ≤ 300) (hr : rightSt pc xs.length 0 = true) (hc : InsS w cv l) (hll : l.length ≤ 300) (hW : W32 xs) (hi' : nextP l pc xs.length = some ⟨18, a, b, c⟩) (q : Int) (hg : gx xs b = q) (hq0 : q < 0) :
    Calls Tryd.prog 17 #[cv, .agg #[.int .i64 pc, .slice (some ad) xs.length cap, .int .i64 0]] w fun e w' => StPost w ((pc : Int) + 1, wx xs a (truthP (decide (0 ≤ q) && decide (q < c))), 0) e w' := by
  obtain ⟨i0, hi, hz0, hz1, hz2⟩ := info_parts info21
  have hlen : (xs.map (Value.int .i32)).length = xs.length * 1 := by simp
  have hml : 0 + xs.length ≤ maxLen := by unfold maxLen; omega
  have hby : (0 + xs.length) * 4 ≤ 140737488355328 := by omega
  obtain ⟨hri, hpc⟩ := nextP_right hi'
  simp only [Int.toNat_natCast] at hri hpc
  have hx0 : 0 < xs.length := by have := (rightSt_iff.1 hr).1; omega
  obtain ⟨ha0, ha1, hb0, hb1, hcn⟩ := right_18 hri
  obtain ⟨a, rfl⟩ := Int.eq_ofNat_of_zero_le ha0
  obtain ⟨b, rfl⟩ := Int.eq_ofNat_of_zero_le hb0
  simp [numP] at hcn
  obtain ⟨hc0, hc1⟩ := hcn
  have HG := Lib.hid hg
  clear hg
  have hz : decide (0 ≤ q) = false := by simp; omega
  clear hq0
  obtain ⟨mb, mo, rfl, lm, hk⟩ := h.look hx0
  have Hk := Lib.hid hk
  have Hn := Lib.hid h
  have Hr := Lib.hid hr
  have Hri := Lib.hid hri
  have Hc := Lib.hid hc
  have Hi := Lib.hid hi'
  have pc0 : (pc : Int) ≤ 300 := by omega
  clear h hr hc hi' hri hk
  go_enter Tryd.func17, Tryd.ntmps17
  go_upto_region 1 with (fail)
  go_cut [5] (fun v5 wc => ∃ pb g cap', v5 = .pointer (some ⟨pb, 0, none⟩) ∧ Head w wc pb g cap' pc (.slice (some ⟨mb, mo, none⟩) xs.length cap) xs 0)
  case first =>
    refine wp_region_held_drew (S := fun w' => w'.cell? ⟨w.heap.size, 0, none⟩ = some (.int .i64 pc) ∧ w'.cell? ⟨w.heap.size, 1, none⟩ = some (.slice (some ⟨mb, mo, none⟩) xs.length cap) ∧ w'.cell? ⟨w.heap.size, 2, none⟩ = some (.int .i64 0)) (by kernel_rfl) (by refine ⟨?_, ?_, ?_⟩ <;> go_simp) (fun hHeld => ?_)
    refine hd_take (i := 0) (some 9) (v := ?v0) rfl rfl (by kernel_rfl) (by kernel_rfl) (by kernel_rfl) (fun _ _ _ h => h) (by rfl) ?h0 (by assumption) ?r0
    case h0 =>
      intro w hSw
      (try dsimp only at hSw)
      go_simp
      (try with_reducible rfl)
    try simp only [Act.put, List.setIfInBounds_toArray, List.set_cons_zero, List.set_cons_succ]
    refine hd_take (i := 1) (some 10) (v := ?v1) rfl rfl (by kernel_rfl) (by kernel_rfl) (by kernel_rfl) (fun _ _ _ h => h) (by rfl) ?h1 (by assumption) ?r1
    case h1 =>
      intro w hSw
      (try dsimp only at hSw)
      go_simp
      (try with_reducible rfl)
    try simp only [Act.put, List.setIfInBounds_toArray, List.set_cons_zero, List.set_cons_succ]
    refine hd_take (i := 3) (some 12) (v := ?v3) rfl rfl (by kernel_rfl) (by kernel_rfl) (by kernel_rfl) (fun _ _ _ h => h) (by rfl) ?h3 (by assumption) ?r3
    case h3 =>
      intro w hSw
      (try dsimp only at hSw)
      go_simp
      (try with_reducible rfl)
    try simp only [Act.put, List.setIfInBounds_toArray, List.set_cons_zero, List.set_cons_succ]
    refine hd_take (i := 4) (some 13) (v := ?v4) rfl rfl (by kernel_rfl) (by kernel_rfl) (by kernel_rfl) (fun _ _ _ h => h) (by rfl) ?h4 (by assumption) ?r4
    case h4 =>
      intro w hSw
      (try dsimp only at hSw)
      go_simp
      (try with_reducible rfl)
    try simp only [Act.put, List.setIfInBounds_toArray, List.set_cons_zero, List.set_cons_succ]
    refine hd_take (i := 6) (some 15) (v := ?v6) rfl rfl (by kernel_rfl) (by kernel_rfl) (by kernel_rfl) (fun _ _ _ h => h) (by rfl) ?h6 (by assumption) ?r6
    case h6 =>
      intro w hSw
      (try dsimp only at hSw)
      go_simp
      (try with_reducible rfl)
    try simp only [Act.put, List.setIfInBounds_toArray, List.set_cons_zero, List.set_cons_succ]
    refine hd_take (i := 7) (some 16) (v := ?v7) rfl rfl (by kernel_rfl) (by kernel_rfl) (by kernel_rfl) (fun _ _ _ h => h) (by rfl) ?h7 (by assumption) ?r7
    case h7 =>
      intro w hSw
      (try dsimp only at hSw)
      go_simp
      (try with_reducible rfl)
    try simp only [Act.put, List.setIfInBounds_toArray, List.set_cons_zero, List.set_cons_succ]
    refine wpAnyH_ready (rs := [2, 9]) (by kernel_rfl) (by simp) ?_
    refine AllReadyH.cons rfl (fun K hK => ?_) (AllReadyH.cons rfl (fun K hK => ?_) AllReadyH.nil)
    · go_simp
      refine hK.out _ _ (by refine ⟨?_, ?_, ?_⟩ <;> go_simp) (fun hH2 => ?_)
      clear hK K
      refine wpAnyH_ready (rs := [5, 9]) (by kernel_rfl) (by simp) ?_
      refine AllReadyH.cons rfl (fun K hK => ?_) (AllReadyH.cons rfl (fun K hK => ?_) AllReadyH.nil)
      · refine step_append_made _ (by rfl) _ _ _ (by rfl) (w.heap.size + 2) 21 i0 _ 1 4 Tryd.underlying23 hi hz0 hz1 hz2 rfl (by omega) ⟨w.heap.size + 2, 0, none⟩ 0 0 [] (by rfl) (by first | exact ownsRow_empty _ _ (by simp) (by omega) | exact ownsRow_empty2 _ _ _ (by simp) (by omega)) ⟨mb, mo, none⟩ xs.length cap (xs.map (Value.int .i32)) (by rfl) hlen (Hn.out.news' (by repeat (first | exact Below.refl _ _ | exact Nat.le_refl _ | apply Below.drew | (refine Below.alloc ?_ (by simp <;> omega) _)))) (one_i32 xs) hml hby (by simp <;> omega) ?_
        intro g cap' w1 hown hgrow
        refine hK.out _ _ (by refine ⟨?_, ?_, ?_⟩ <;> (rw [hgrow.cell_far _ (by simp <;> omega) (by simp <;> omega)]; go_simp)) (fun hH5 => ?_)
        clear hK K
        try simp only [Act.put, List.setIfInBounds_toArray, List.set_cons_zero, List.set_cons_succ]
        rw [Nat.zero_add, List.nil_append] at hown
        rw [Nat.zero_add]
        have hs1 := hgrow.size
        simp at hs1
        refine hd_take (i := 8) (some 17) (v := ?v8x1) rfl rfl (by kernel_rfl) (by kernel_rfl) (by kernel_rfl) (fun _ _ _ h => h) (by rfl) ?h8x1 (by assumption) ?r8x1
        case h8x1 =>
          intro w hSw
          (try dsimp only at hSw)
          go_simp
          (try with_reducible rfl)
        try simp only [Act.put, List.setIfInBounds_toArray, List.set_cons_zero, List.set_cons_succ]
        refine wpAnyH_ready (rs := [9]) (by kernel_rfl) (by simp) ?_
        refine AllReadyH.cons rfl (fun K hK => ?_) AllReadyH.nil
        go_simp
        refine hK.out _ _ (by refine ⟨?_, ?_, ?_⟩ <;> (rw [World.cell?_alloc_past _ _ _ (by omega)]; first | exact hH5.1 | exact hH5.2.1 | exact hH5.2.2)) (fun hH9 => ?_)
        clear hK K
        refine wpAnyH_ready (rs := [10]) (by kernel_rfl) (by simp) ?_
        refine AllReadyH.cons rfl (fun K hK => ?_) AllReadyH.nil
        go_simp
        refine hK.out _ _ (by refine ⟨?_, ?_, ?_⟩ <;> (rw [World.cell?_alloc_past _ _ _ (by omega)]; first | exact hH5.1 | exact hH5.2.1 | exact hH5.2.2)) (fun hH10 => ?_)
        clear hK K
        refine wpAnyH_done (by kernel_rfl) ?_ _
        go_wp2_with fail
        go_meet
        case rel => exact ⟨_, g, cap', rfl, head_new w _ w1 g cap' pc (.slice (some ⟨mb, mo, none⟩) xs.length cap) xs 0 hown hgrow (by repeat (first | exact Below.refl _ _ | exact Nat.le_refl _ | apply Below.drew | (refine Below.alloc ?_ (by simp <;> omega) _))) (by simp <;> omega) (by simp <;> omega) (fun i => by go_simp) (fun i => by go_simp) (fun i => by go_simp)⟩
      · go_simp
        refine hK.out _ _ (by refine ⟨?_, ?_, ?_⟩ <;> go_simp) (fun hH9 => ?_)
        clear hK K
        refine wpAnyH_ready (rs := [5]) (by kernel_rfl) (by simp) ?_
        refine AllReadyH.cons rfl (fun K hK => ?_) AllReadyH.nil
        refine step_append_made _ (by rfl) _ _ _ (by rfl) (w.heap.size + 2) 21 i0 _ 1 4 Tryd.underlying23 hi hz0 hz1 hz2 rfl (by omega) ⟨w.heap.size + 2, 0, none⟩ 0 0 [] (by rfl) (by first | exact ownsRow_empty _ _ (by simp) (by omega) | exact ownsRow_empty2 _ _ _ (by simp) (by omega)) ⟨mb, mo, none⟩ xs.length cap (xs.map (Value.int .i32)) (by rfl) hlen (Hn.out.news' (by repeat (first | exact Below.refl _ _ | exact Nat.le_refl _ | apply Below.drew | (refine Below.alloc ?_ (by simp <;> omega) _)))) (one_i32 xs) hml hby (by simp <;> omega) ?_
        intro g cap' w1 hown hgrow
        refine hK.out _ _ (by refine ⟨?_, ?_, ?_⟩ <;> (rw [hgrow.cell_far _ (by simp <;> omega) (by simp <;> omega)]; go_simp)) (fun hH5 => ?_)
        clear hK K
        try simp only [Act.put, List.setIfInBounds_toArray, List.set_cons_zero, List.set_cons_succ]
        rw [Nat.zero_add, List.nil_append] at hown
        rw [Nat.zero_add]
        have hs1 := hgrow.size
        simp at hs1
        have o0 : ∀ i, w1.cell? ⟨w.heap.size + 3, i, none⟩ = #[Value.int .i64 0, .slice none 0 0, .int .i64 0][i]? := fun i => (hgrow.cell_far _ (by simp <;> omega) (by simp <;> omega)).trans (by go_simp)
        have of : ∀ i, w1.frozen? ⟨w.heap.size + 3, i, none⟩ = false := fun i => (hgrow.frozen_far _ (by simp <;> omega) (by simp <;> omega)).trans (by go_simp)
        refine hd_take (i := 8) (some 17) (v := ?v8x2) rfl rfl (by kernel_rfl) (by kernel_rfl) (by kernel_rfl) (fun _ _ _ h => h) (by rfl) ?h8x2 (by assumption) ?r8x2
        case h8x2 =>
          intro w hSw
          (try dsimp only at hSw)
          go_simp
          (try with_reducible rfl)
        try simp only [Act.put, List.setIfInBounds_toArray, List.set_cons_zero, List.set_cons_succ]
        refine wpAnyH_ready (rs := [10]) (by kernel_rfl) (by simp) ?_
        refine AllReadyH.cons rfl (fun K hK => ?_) AllReadyH.nil
        go_simp
        refine hK.out _ _ (by refine ⟨?_, ?_, ?_⟩ <;> (rw [World.cell?_setCell_far _ _ _ _ (by simp <;> omega), World.cell?_setCell_far _ _ _ _ (by simp <;> omega), World.cell?_setCell_far _ _ _ _ (by simp <;> omega)]; first | exact hH5.1 | exact hH5.2.1 | exact hH5.2.2)) (fun hH10 => ?_)
        clear hK K
        refine wpAnyH_done (by kernel_rfl) ?_ _
        go_wp2_with fail
        go_meet
        case rel => exact ⟨_, g, cap', rfl, head_old w _ w1 _ _ g cap' pc (.slice (some ⟨mb, mo, none⟩) xs.length cap) xs 0 hown hgrow (by repeat (first | exact Below.refl _ _ | exact Nat.le_refl _ | apply Below.drew | (refine Below.alloc ?_ (by simp <;> omega) _))) (by simp <;> omega) (by simp <;> omega) (by simp <;> omega) (by simp <;> omega) (by simp <;> omega) (fun i => by go_simp) (fun i => by go_simp) (fun i => by go_simp) (by first | exact heap_at1 _ _ _ (by simp) | exact heap_at2 _ _ _ _ (by simp))⟩
    · go_simp
      refine hK.out _ _ (by refine ⟨?_, ?_, ?_⟩ <;> go_simp) (fun hH9 => ?_)
      clear hK K
      refine wpAnyH_ready (rs := [2]) (by kernel_rfl) (by simp) ?_
      refine AllReadyH.cons rfl (fun K hK => ?_) AllReadyH.nil
      go_simp
      refine hK.out _ _ (by refine ⟨?_, ?_, ?_⟩ <;> go_simp) (fun hH2 => ?_)
      clear hK K
      refine wpAnyH_ready (rs := [5]) (by kernel_rfl) (by simp) ?_
      refine AllReadyH.cons rfl (fun K hK => ?_) AllReadyH.nil
      refine step_append_made _ (by rfl) _ _ _ (by rfl) (w.heap.size + 2) 21 i0 _ 1 4 Tryd.underlying23 hi hz0 hz1 hz2 rfl (by omega) ⟨w.heap.size + 3, 0, none⟩ 0 0 [] (by rfl) (by first | exact ownsRow_empty _ _ (by simp) (by omega) | exact ownsRow_empty2 _ _ _ (by simp) (by omega)) ⟨mb, mo, none⟩ xs.length cap (xs.map (Value.int .i32)) (by rfl) hlen (Hn.out.news' (by repeat (first | exact Below.refl _ _ | exact Nat.le_refl _ | apply Below.drew | (refine Below.alloc ?_ (by simp <;> omega) _)))) (one_i32 xs) hml hby (by simp <;> omega) ?_
      intro g cap' w1 hown hgrow
      refine hK.out _ _ (by refine ⟨?_, ?_, ?_⟩ <;> (rw [hgrow.cell_far _ (by simp <;> omega) (by simp <;> omega)]; go_simp)) (fun hH5 => ?_)
      clear hK K
      try simp only [Act.put, List.setIfInBounds_toArray, List.set_cons_zero, List.set_cons_succ]
      rw [Nat.zero_add, List.nil_append] at hown
      rw [Nat.zero_add]
      have hs1 := hgrow.size
      simp at hs1
      have o0 : ∀ i, w1.cell? ⟨w.heap.size + 2, i, none⟩ = #[Value.int .i64 0, .slice none 0 0, .int .i64 0][i]? := fun i => (hgrow.cell_far _ (by simp <;> omega) (by simp <;> omega)).trans (by go_simp)
      have of : ∀ i, w1.frozen? ⟨w.heap.size + 2, i, none⟩ = false := fun i => (hgrow.frozen_far _ (by simp <;> omega) (by simp <;> omega)).trans (by go_simp)
      refine hd_take (i := 8) (some 17) (v := ?v8x3) rfl rfl (by kernel_rfl) (by kernel_rfl) (by kernel_rfl) (fun _ _ _ h => h) (by rfl) ?h8x3 (by assumption) ?r8x3
      case h8x3 =>
        intro w hSw
        (try dsimp only at hSw)
        go_simp
        (try with_reducible rfl)
      try simp only [Act.put, List.setIfInBounds_toArray, List.set_cons_zero, List.set_cons_succ]
      refine wpAnyH_ready (rs := [10]) (by kernel_rfl) (by simp) ?_
      refine AllReadyH.cons rfl (fun K hK => ?_) AllReadyH.nil
      go_simp
      refine hK.out _ _ (by refine ⟨?_, ?_, ?_⟩ <;> (rw [World.cell?_setCell_far _ _ _ _ (by simp <;> omega), World.cell?_setCell_far _ _ _ _ (by simp <;> omega), World.cell?_setCell_far _ _ _ _ (by simp <;> omega)]; first | exact hH5.1 | exact hH5.2.1 | exact hH5.2.2)) (fun hH10 => ?_)
      clear hK K
      refine wpAnyH_done (by kernel_rfl) ?_ _
      go_wp2_with fail
      go_meet
      case rel => exact ⟨_, g, cap', rfl, head_old w _ w1 _ _ g cap' pc (.slice (some ⟨mb, mo, none⟩) xs.length cap) xs 0 hown hgrow (by repeat (first | exact Below.refl _ _ | exact Nat.le_refl _ | apply Below.drew | (refine Below.alloc ?_ (by simp <;> omega) _))) (by simp <;> omega) (by simp <;> omega) (by simp <;> omega) (by simp <;> omega) (by simp <;> omega) (fun i => by go_simp) (fun i => by go_simp) (fun i => by go_simp) (by first | exact heap_at1 _ _ _ (by simp) | exact heap_at2 _ _ _ _ (by simp))⟩
  case rest =>
    obtain ⟨pb, g, cap', rfl, hH⟩ := hcut
    have HH := Lib.hid hH
    have bx := hH.box
    clear hH
    go_wp2_with fail
    refine (rright_any pc 0 _ _ _ _).mono ?_
    rintro e w1 ⟨rfl, hb1⟩
    have hs0 := HH.out.below.size
    have hpb := HH.out.lpb
    have hlp := HH.out.lp
    have bx1 : ∀ i, w1.cell? ⟨w.heap.size, i, none⟩ = #[Value.int .i64 pc, .slice (some ⟨mb, mo, none⟩) xs.length cap, .int .i64 0][i]? := fun i => (hb1.cell (p := ⟨w.heap.size, i, none⟩) (by show w.heap.size < _; omega)).trans (bx i)
    have HB1 := Lib.hid hb1
    clear bx hb1
    rw [Hr.out]
    go_wp2_with fail
    refine (rnext_yes pc _ _ _ l cv _ _ Hr.out ((Hc.out.below HH.out.below (Nat.le_refl _)).below HB1.out (Nat.le_refl _)) hll Hi.out).mono ?_
    rintro e w2 ⟨rfl, hb2⟩
    have hs1 := HB1.out.size
    have hs2 := hb2.size
    have HM2 : Hid (MSt w2 pb g cap' pc xs 0) := Lib.hid ((HH.out.st.below hx0 HB1.out).below hx0 hb2)
    have HB2 : Hid (Below w.heap.size w w2) := Lib.hid ((HH.out.below.trans (HB1.out.mono (by omega))).trans (hb2.mono (by omega)))
    have bx2 : ∀ i, w2.cell? ⟨w.heap.size, i, none⟩ = #[Value.int .i64 pc, .slice (some ⟨mb, mo, none⟩) xs.length cap, .int .i64 0][i]? := fun i => (hb2.cell (p := ⟨w.heap.size, i, none⟩) (by show w.heap.size < _; omega)).trans (bx1 i)
    have rs2 : ∀ i, w2.cell? ⟨w.heap.size + 1, i, none⟩ = #[Value.int .i64 0, .slice none 0 0, .int .i64 0][i]? := fun i => (hb2.cell (p := ⟨w.heap.size + 1, i, none⟩) (by show w.heap.size + 1 < _; omega)).trans ((HB1.out.cell (p := ⟨w.heap.size + 1, i, none⟩) (by show w.heap.size + 1 < _; omega)).trans (HH.out.res i))
    have fr2 : ∀ i, w2.frozen? ⟨w.heap.size + 1, i, none⟩ = false := fun i => (hb2.frozen (p := ⟨w.heap.size + 1, i, none⟩) (by show w.heap.size + 1 < _; omega)).trans ((HB1.out.frozen (p := ⟨w.heap.size + 1, i, none⟩) (by show w.heap.size + 1 < _; omega)).trans (HH.out.fres i))
    have mem2 : Hid (∀ k x, xs[k]? = some x → w2.cell? ⟨mb, mo + k, none⟩ = some (.int .i32 x)) := Lib.hid fun k x hx => (HB2.out.cell (p := ⟨mb, mo + k, none⟩) lm).trans (Hk.out k x hx)
    have lr2 : w.heap.size + 1 < w2.heap.size := by omega
    have lb2 : w.heap.size < w2.heap.size := by omega
    have lp2 : pb < w2.heap.size := by omega
    have lg2 : g < w2.heap.size := by have := HH.out.lgb; omega
    have lm2 : mb < w2.heap.size := by omega
    have hlw := lm
    have hpg := HH.out.st.ne
    have hlg := HH.out.lg
    have hlp' := HH.out.lp
    have q0 := HM2.out.st.c0
    have q1 := HM2.out.st.c1
    have q2 := HM2.out.st.c2
    have zp := HM2.out.fp
    have zg := HM2.out.fm
    clear bx1 hb2 hs0 hs1 hs2 hpb hlp
    go_upto_region 12 with (fail)
    obtain ⟨W, hW⟩ : ∃ W, W = (w2.setCell ⟨pb, 0, none⟩ (.int .i64 ((pc : Int) + 1))).alloc (.cells #[.int .i64 18, .int .i64 a, .int .i64 b, .int .i64 c] 58) := ⟨_, rfl⟩
    rw [← hW]
    obtain ⟨HM, HB, bxW, rsW, frW, memW, inW, szW⟩ := rdy HM2.out HB2.out hx0 bx2 rs2 fr2 mem2.out lm HH.out.lp lp2 lg2 hW
    replace HM := Lib.hid HM
    replace HB := Lib.hid HB
    replace memW := Lib.hid memW
    clear hW bx2 rs2 fr2 mem2 HM2 HB2 q0 q1 q2 zp zg
    have q0 := HM.out.st.c0
    have q1 := HM.out.st.c1
    have q2 := HM.out.st.c2
    have zp := HM.out.fp
    have zg := HM.out.fm
    generalize w2.heap.size = ib at *
    have lgW : g < W.heap.size := by omega
    have hbp : ¬ w.heap.size = pb := by omega
    have hbg : ¬ w.heap.size = g := by omega
    have hrp : ¬ w.heap.size + 1 = pb := by omega
    have hrg : ¬ w.heap.size + 1 = g := by omega
    have hig : ¬ ib = g := by omega
    have hip : ¬ ib = pb := by omega
    have hmp : ¬ mb = pb := by omega
    have hmg : ¬ mb = g := by omega
    have rdb := memW.out b _ (gx_at (show b < xs.length by omega))
    rw [HG.out] at rdb
    obtain ⟨g0, g1⟩ : -2147483648 ≤ q ∧ q ≤ 2147483647 := by rw [← HG.out]; exact hW.gx (by omega)
    have lb : (b : Int) < (xs.length : Int) := by omega
    obtain ⟨xa, ga⟩ : ∃ xa, W.cell? ⟨g, a, none⟩ = some xa := ⟨_, HM.out.cells a _ (gx_at (show a < xs.length by omega))⟩
    have lda : (a : Int) < (xs.length : Int) := by omega
    have key : Hid (∀ v', v' = truthP (decide (0 ≤ q) && decide (q < c)) → MSt (W.setCell ⟨g, a, none⟩ (.int .i32 v')) pb g cap' (pc + 1) (wx xs a (truthP (decide (0 ≤ q) && decide (q < c)))) 0) := Lib.hid (by rintro _ rfl; exact HM.out.setMem (by omega) _)
    go_wp2_with fail
    refine wp_region_still_tail 24 (by kernel_rfl) (by kernel_rfl) ?_
    simp only [List.take_succ_cons, List.take_zero, List.drop_succ_cons, List.drop_zero]
    iterate 12 still_step
    have Hz := Lib.hid hz
    have HA := Lib.hid (And.intro ga (And.intro zg (And.intro q0 (And.intro q1 (And.intro q2 (And.intro lda (And.intro rsW frW)))))))
    clear hz ga zg q0 q1 q2 lda rsW frW rdb lb g0 g1
    iterate 10 still_step
    repeat still_step
    still_call ((rtruth_any _ _).mono (by rintro e w' ⟨rfl, rfl⟩; exact ⟨rfl, rfl⟩))
    repeat still_step
    try refine wpStill_nil ?_
    obtain ⟨ga, zg, q0, q1, q2, lda, rsW, frW⟩ := HA.out
    go_wp2
    refine bodyPost_ret (v := .agg #[.int .i64 ((pc : Int) + 1), .slice (some ⟨g, 0, none⟩) xs.length cap', .int .i64 (0)]) (by simp [results, Tryd.results17, go_sem, *]) rfl ?_
    refine StPost.drew ?_
    exact fin (key.out _ (by rw [Hz.out]; simp)) (HB.out.setCell (by show w.heap.size ≤ g; omega) _) HH.out.lk hx0 (wx_len _ _ _) hlg
end Go.Proofs.YteecpkkgjioplaaDoor

/- baizeref15.Step: rstep_19 -/
namespace Go.Proofs.YteecpkkgjioplaaDoor
open Go.RowKit Go

set_option linter.unusedSimpArgs false in
set_option linter.unusedVariables false in
set_option maxRecDepth 100000 in
set_option maxHeartbeats 4000000 in
theorem rstep_19 (pc : Nat) (ad : Addr) (cap : Nat) (xs : List Int) (cv : Value) (l : List Ins) (a b c : Int) (w : World) (h : I32s w (.slice (some ad) xs.length cap) xs) (hl : xs.length ≤ 300) (hr : rightSt pc xs.length 0 = true) (hc : InsS w cv l) (hll : l.length ≤ 300) (hW : W32 xs) (hi' : nextP l pc xs.length = some ⟨19, a, b, c⟩) :
    Calls Tryd.prog 17 #[cv, .agg #[.int .i64 pc, .slice (some ad) xs.length cap, .int .i64 0]] w fun e w' => StPost w (a, xs, 0) e w' := by
  obtain ⟨i0, hi, hz0, hz1, hz2⟩ := info_parts info21
  have hlen : (xs.map (Value.int .i32)).length = xs.length * 1 := by simp
  have hml : 0 + xs.length ≤ maxLen := by unfold maxLen; omega
  have hby : (0 + xs.length) * 4 ≤ 140737488355328 := by omega
  obtain ⟨hri, hpc⟩ := nextP_right hi'
  simp only [Int.toNat_natCast] at hri hpc
  have hx0 : 0 < xs.length := by have := (rightSt_iff.1 hr).1; omega
  have ha := right_19 hri
  clear ha
  obtain ⟨mb, mo, rfl, lm, hk⟩ := h.look hx0
  have Hk := Lib.hid hk
  have Hn := Lib.hid h
  have Hr := Lib.hid hr
  have Hri := Lib.hid hri
  have Hc := Lib.hid hc
  have Hi := Lib.hid hi'
  have pc0 : (pc : Int) ≤ 300 := by omega
  clear h hr hc hi' hri hk
  go_enter Tryd.func17, Tryd.ntmps17
  go_upto_region 1 with (fail)
  go_cut [5] (fun v5 wc => ∃ pb g cap', v5 = .pointer (some ⟨pb, 0, none⟩) ∧ Head w wc pb g cap' pc (.slice (some ⟨mb, mo, none⟩) xs.length cap) xs 0)
  case first =>
    refine wp_region_held_drew (S := fun w' => w'.cell? ⟨w.heap.size, 0, none⟩ = some (.int .i64 pc) ∧ w'.cell? ⟨w.heap.size, 1, none⟩ = some (.slice (some ⟨mb, mo, none⟩) xs.length cap) ∧ w'.cell? ⟨w.heap.size, 2, none⟩ = some (.int .i64 0)) (by kernel_rfl) (by refine ⟨?_, ?_, ?_⟩ <;> go_simp) (fun hHeld => ?_)
    refine hd_take (i := 0) (some 9) (v := ?v0) rfl rfl (by kernel_rfl) (by kernel_rfl) (by kernel_rfl) (fun _ _ _ h => h) (by rfl) ?h0 (by assumption) ?r0
    case h0 =>
      intro w hSw
      (try dsimp only at hSw)
      go_simp
      (try with_reducible rfl)
    try simp only [Act.put, List.setIfInBounds_toArray, List.set_cons_zero, List.set_cons_succ]
    refine hd_take (i := 1) (some 10) (v := ?v1) rfl rfl (by kernel_rfl) (by kernel_rfl) (by kernel_rfl) (fun _ _ _ h => h) (by rfl) ?h1 (by assumption) ?r1
    case h1 =>
      intro w hSw
      (try dsimp only at hSw)
      go_simp
      (try with_reducible rfl)
    try simp only [Act.put, List.setIfInBounds_toArray, List.set_cons_zero, List.set_cons_succ]
    refine hd_take (i := 3) (some 12) (v := ?v3) rfl rfl (by kernel_rfl) (by kernel_rfl) (by kernel_rfl) (fun _ _ _ h => h) (by rfl) ?h3 (by assumption) ?r3
    case h3 =>
      intro w hSw
      (try dsimp only at hSw)
      go_simp
      (try with_reducible rfl)
    try simp only [Act.put, List.setIfInBounds_toArray, List.set_cons_zero, List.set_cons_succ]
    refine hd_take (i := 4) (some 13) (v := ?v4) rfl rfl (by kernel_rfl) (by kernel_rfl) (by kernel_rfl) (fun _ _ _ h => h) (by rfl) ?h4 (by assumption) ?r4
    case h4 =>
      intro w hSw
      (try dsimp only at hSw)
      go_simp
      (try with_reducible rfl)
    try simp only [Act.put, List.setIfInBounds_toArray, List.set_cons_zero, List.set_cons_succ]
    refine hd_take (i := 6) (some 15) (v := ?v6) rfl rfl (by kernel_rfl) (by kernel_rfl) (by kernel_rfl) (fun _ _ _ h => h) (by rfl) ?h6 (by assumption) ?r6
    case h6 =>
      intro w hSw
      (try dsimp only at hSw)
      go_simp
      (try with_reducible rfl)
    try simp only [Act.put, List.setIfInBounds_toArray, List.set_cons_zero, List.set_cons_succ]
    refine hd_take (i := 7) (some 16) (v := ?v7) rfl rfl (by kernel_rfl) (by kernel_rfl) (by kernel_rfl) (fun _ _ _ h => h) (by rfl) ?h7 (by assumption) ?r7
    case h7 =>
      intro w hSw
      (try dsimp only at hSw)
      go_simp
      (try with_reducible rfl)
    try simp only [Act.put, List.setIfInBounds_toArray, List.set_cons_zero, List.set_cons_succ]
    refine wpAnyH_ready (rs := [2, 9]) (by kernel_rfl) (by simp) ?_
    refine AllReadyH.cons rfl (fun K hK => ?_) (AllReadyH.cons rfl (fun K hK => ?_) AllReadyH.nil)
    · go_simp
      refine hK.out _ _ (by refine ⟨?_, ?_, ?_⟩ <;> go_simp) (fun hH2 => ?_)
      clear hK K
      refine wpAnyH_ready (rs := [5, 9]) (by kernel_rfl) (by simp) ?_
      refine AllReadyH.cons rfl (fun K hK => ?_) (AllReadyH.cons rfl (fun K hK => ?_) AllReadyH.nil)
      · refine step_append_made _ (by rfl) _ _ _ (by rfl) (w.heap.size + 2) 21 i0 _ 1 4 Tryd.underlying23 hi hz0 hz1 hz2 rfl (by omega) ⟨w.heap.size + 2, 0, none⟩ 0 0 [] (by rfl) (by first | exact ownsRow_empty _ _ (by simp) (by omega) | exact ownsRow_empty2 _ _ _ (by simp) (by omega)) ⟨mb, mo, none⟩ xs.length cap (xs.map (Value.int .i32)) (by rfl) hlen (Hn.out.news' (by repeat (first | exact Below.refl _ _ | exact Nat.le_refl _ | apply Below.drew | (refine Below.alloc ?_ (by simp <;> omega) _)))) (one_i32 xs) hml hby (by simp <;> omega) ?_
        intro g cap' w1 hown hgrow
        refine hK.out _ _ (by refine ⟨?_, ?_, ?_⟩ <;> (rw [hgrow.cell_far _ (by simp <;> omega) (by simp <;> omega)]; go_simp)) (fun hH5 => ?_)
        clear hK K
        try simp only [Act.put, List.setIfInBounds_toArray, List.set_cons_zero, List.set_cons_succ]
        rw [Nat.zero_add, List.nil_append] at hown
        rw [Nat.zero_add]
        have hs1 := hgrow.size
        simp at hs1
        refine hd_take (i := 8) (some 17) (v := ?v8x1) rfl rfl (by kernel_rfl) (by kernel_rfl) (by kernel_rfl) (fun _ _ _ h => h) (by rfl) ?h8x1 (by assumption) ?r8x1
        case h8x1 =>
          intro w hSw
          (try dsimp only at hSw)
          go_simp
          (try with_reducible rfl)
        try simp only [Act.put, List.setIfInBounds_toArray, List.set_cons_zero, List.set_cons_succ]
        refine wpAnyH_ready (rs := [9]) (by kernel_rfl) (by simp) ?_
        refine AllReadyH.cons rfl (fun K hK => ?_) AllReadyH.nil
        go_simp
        refine hK.out _ _ (by refine ⟨?_, ?_, ?_⟩ <;> (rw [World.cell?_alloc_past _ _ _ (by omega)]; first | exact hH5.1 | exact hH5.2.1 | exact hH5.2.2)) (fun hH9 => ?_)
        clear hK K
        refine wpAnyH_ready (rs := [10]) (by kernel_rfl) (by simp) ?_
        refine AllReadyH.cons rfl (fun K hK => ?_) AllReadyH.nil
        go_simp
        refine hK.out _ _ (by refine ⟨?_, ?_, ?_⟩ <;> (rw [World.cell?_alloc_past _ _ _ (by omega)]; first | exact hH5.1 | exact hH5.2.1 | exact hH5.2.2)) (fun hH10 => ?_)
        clear hK K
        refine wpAnyH_done (by kernel_rfl) ?_ _
        go_wp2_with fail
        go_meet
        case rel => exact ⟨_, g, cap', rfl, head_new w _ w1 g cap' pc (.slice (some ⟨mb, mo, none⟩) xs.length cap) xs 0 hown hgrow (by repeat (first | exact Below.refl _ _ | exact Nat.le_refl _ | apply Below.drew | (refine Below.alloc ?_ (by simp <;> omega) _))) (by simp <;> omega) (by simp <;> omega) (fun i => by go_simp) (fun i => by go_simp) (fun i => by go_simp)⟩
      · go_simp
        refine hK.out _ _ (by refine ⟨?_, ?_, ?_⟩ <;> go_simp) (fun hH9 => ?_)
        clear hK K
        refine wpAnyH_ready (rs := [5]) (by kernel_rfl) (by simp) ?_
        refine AllReadyH.cons rfl (fun K hK => ?_) AllReadyH.nil
        refine step_append_made _ (by rfl) _ _ _ (by rfl) (w.heap.size + 2) 21 i0 _ 1 4 Tryd.underlying23 hi hz0 hz1 hz2 rfl (by omega) ⟨w.heap.size + 2, 0, none⟩ 0 0 [] (by rfl) (by first | exact ownsRow_empty _ _ (by simp) (by omega) | exact ownsRow_empty2 _ _ _ (by simp) (by omega)) ⟨mb, mo, none⟩ xs.length cap (xs.map (Value.int .i32)) (by rfl) hlen (Hn.out.news' (by repeat (first | exact Below.refl _ _ | exact Nat.le_refl _ | apply Below.drew | (refine Below.alloc ?_ (by simp <;> omega) _)))) (one_i32 xs) hml hby (by simp <;> omega) ?_
        intro g cap' w1 hown hgrow
        refine hK.out _ _ (by refine ⟨?_, ?_, ?_⟩ <;> (rw [hgrow.cell_far _ (by simp <;> omega) (by simp <;> omega)]; go_simp)) (fun hH5 => ?_)
        clear hK K
        try simp only [Act.put, List.setIfInBounds_toArray, List.set_cons_zero, List.set_cons_succ]
        rw [Nat.zero_add, List.nil_append] at hown
        rw [Nat.zero_add]
        have hs1 := hgrow.size
        simp at hs1
        have o0 : ∀ i, w1.cell? ⟨w.heap.size + 3, i, none⟩ = #[Value.int .i64 0, .slice none 0 0, .int .i64 0][i]? := fun i => (hgrow.cell_far _ (by simp <;> omega) (by simp <;> omega)).trans (by go_simp)
        have of : ∀ i, w1.frozen? ⟨w.heap.size + 3, i, none⟩ = false := fun i => (hgrow.frozen_far _ (by simp <;> omega) (by simp <;> omega)).trans (by go_simp)
        refine hd_take (i := 8) (some 17) (v := ?v8x2) rfl rfl (by kernel_rfl) (by kernel_rfl) (by kernel_rfl) (fun _ _ _ h => h) (by rfl) ?h8x2 (by assumption) ?r8x2
        case h8x2 =>
          intro w hSw
          (try dsimp only at hSw)
          go_simp
          (try with_reducible rfl)
        try simp only [Act.put, List.setIfInBounds_toArray, List.set_cons_zero, List.set_cons_succ]
        refine wpAnyH_ready (rs := [10]) (by kernel_rfl) (by simp) ?_
        refine AllReadyH.cons rfl (fun K hK => ?_) AllReadyH.nil
        go_simp
        refine hK.out _ _ (by refine ⟨?_, ?_, ?_⟩ <;> (rw [World.cell?_setCell_far _ _ _ _ (by simp <;> omega), World.cell?_setCell_far _ _ _ _ (by simp <;> omega), World.cell?_setCell_far _ _ _ _ (by simp <;> omega)]; first | exact hH5.1 | exact hH5.2.1 | exact hH5.2.2)) (fun hH10 => ?_)
        clear hK K
        refine wpAnyH_done (by kernel_rfl) ?_ _
        go_wp2_with fail
        go_meet
        case rel => exact ⟨_, g, cap', rfl, head_old w _ w1 _ _ g cap' pc (.slice (some ⟨mb, mo, none⟩) xs.length cap) xs 0 hown hgrow (by repeat (first | exact Below.refl _ _ | exact Nat.le_refl _ | apply Below.drew | (refine Below.alloc ?_ (by simp <;> omega) _))) (by simp <;> omega) (by simp <;> omega) (by simp <;> omega) (by simp <;> omega) (by simp <;> omega) (fun i => by go_simp) (fun i => by go_simp) (fun i => by go_simp) (by first | exact heap_at1 _ _ _ (by simp) | exact heap_at2 _ _ _ _ (by simp))⟩
    · go_simp
      refine hK.out _ _ (by refine ⟨?_, ?_, ?_⟩ <;> go_simp) (fun hH9 => ?_)
      clear hK K
      refine wpAnyH_ready (rs := [2]) (by kernel_rfl) (by simp) ?_
      refine AllReadyH.cons rfl (fun K hK => ?_) AllReadyH.nil
      go_simp
      refine hK.out _ _ (by refine ⟨?_, ?_, ?_⟩ <;> go_simp) (fun hH2 => ?_)
      clear hK K
      refine wpAnyH_ready (rs := [5]) (by kernel_rfl) (by simp) ?_
      refine AllReadyH.cons rfl (fun K hK => ?_) AllReadyH.nil
      refine step_append_made _ (by rfl) _ _ _ (by rfl) (w.heap.size + 2) 21 i0 _ 1 4 Tryd.underlying23 hi hz0 hz1 hz2 rfl (by omega) ⟨w.heap.size + 3, 0, none⟩ 0 0 [] (by rfl) (by first | exact ownsRow_empty _ _ (by simp) (by omega) | exact ownsRow_empty2 _ _ _ (by simp) (by omega)) ⟨mb, mo, none⟩ xs.length cap (xs.map (Value.int .i32)) (by rfl) hlen (Hn.out.news' (by repeat (first | exact Below.refl _ _ | exact Nat.le_refl _ | apply Below.drew | (refine Below.alloc ?_ (by simp <;> omega) _)))) (one_i32 xs) hml hby (by simp <;> omega) ?_
      intro g cap' w1 hown hgrow
      refine hK.out _ _ (by refine ⟨?_, ?_, ?_⟩ <;> (rw [hgrow.cell_far _ (by simp <;> omega) (by simp <;> omega)]; go_simp)) (fun hH5 => ?_)
      clear hK K
      try simp only [Act.put, List.setIfInBounds_toArray, List.set_cons_zero, List.set_cons_succ]
      rw [Nat.zero_add, List.nil_append] at hown
      rw [Nat.zero_add]
      have hs1 := hgrow.size
      simp at hs1
      have o0 : ∀ i, w1.cell? ⟨w.heap.size + 2, i, none⟩ = #[Value.int .i64 0, .slice none 0 0, .int .i64 0][i]? := fun i => (hgrow.cell_far _ (by simp <;> omega) (by simp <;> omega)).trans (by go_simp)
      have of : ∀ i, w1.frozen? ⟨w.heap.size + 2, i, none⟩ = false := fun i => (hgrow.frozen_far _ (by simp <;> omega) (by simp <;> omega)).trans (by go_simp)
      refine hd_take (i := 8) (some 17) (v := ?v8x3) rfl rfl (by kernel_rfl) (by kernel_rfl) (by kernel_rfl) (fun _ _ _ h => h) (by rfl) ?h8x3 (by assumption) ?r8x3
      case h8x3 =>
        intro w hSw
        (try dsimp only at hSw)
        go_simp
        (try with_reducible rfl)
      try simp only [Act.put, List.setIfInBounds_toArray, List.set_cons_zero, List.set_cons_succ]
      refine wpAnyH_ready (rs := [10]) (by kernel_rfl) (by simp) ?_
      refine AllReadyH.cons rfl (fun K hK => ?_) AllReadyH.nil
      go_simp
      refine hK.out _ _ (by refine ⟨?_, ?_, ?_⟩ <;> (rw [World.cell?_setCell_far _ _ _ _ (by simp <;> omega), World.cell?_setCell_far _ _ _ _ (by simp <;> omega), World.cell?_setCell_far _ _ _ _ (by simp <;> omega)]; first | exact hH5.1 | exact hH5.2.1 | exact hH5.2.2)) (fun hH10 => ?_)
      clear hK K
      refine wpAnyH_done (by kernel_rfl) ?_ _
      go_wp2_with fail
      go_meet
      case rel => exact ⟨_, g, cap', rfl, head_old w _ w1 _ _ g cap' pc (.slice (some ⟨mb, mo, none⟩) xs.length cap) xs 0 hown hgrow (by repeat (first | exact Below.refl _ _ | exact Nat.le_refl _ | apply Below.drew | (refine Below.alloc ?_ (by simp <;> omega) _))) (by simp <;> omega) (by simp <;> omega) (by simp <;> omega) (by simp <;> omega) (by simp <;> omega) (fun i => by go_simp) (fun i => by go_simp) (fun i => by go_simp) (by first | exact heap_at1 _ _ _ (by simp) | exact heap_at2 _ _ _ _ (by simp))⟩
  case rest =>
    obtain ⟨pb, g, cap', rfl, hH⟩ := hcut
    have HH := Lib.hid hH
    have bx := hH.box
    clear hH
    go_wp2_with fail
    refine (rright_any pc 0 _ _ _ _).mono ?_
    rintro e w1 ⟨rfl, hb1⟩
    have hs0 := HH.out.below.size
    have hpb := HH.out.lpb
    have hlp := HH.out.lp
    have bx1 : ∀ i, w1.cell? ⟨w.heap.size, i, none⟩ = #[Value.int .i64 pc, .slice (some ⟨mb, mo, none⟩) xs.length cap, .int .i64 0][i]? := fun i => (hb1.cell (p := ⟨w.heap.size, i, none⟩) (by show w.heap.size < _; omega)).trans (bx i)
    have HB1 := Lib.hid hb1
    clear bx hb1
    rw [Hr.out]
    go_wp2_with fail
    refine (rnext_yes pc _ _ _ l cv _ _ Hr.out ((Hc.out.below HH.out.below (Nat.le_refl _)).below HB1.out (Nat.le_refl _)) hll Hi.out).mono ?_
    rintro e w2 ⟨rfl, hb2⟩
    have hs1 := HB1.out.size
    have hs2 := hb2.size
    have HM2 : Hid (MSt w2 pb g cap' pc xs 0) := Lib.hid ((HH.out.st.below hx0 HB1.out).below hx0 hb2)
    have HB2 : Hid (Below w.heap.size w w2) := Lib.hid ((HH.out.below.trans (HB1.out.mono (by omega))).trans (hb2.mono (by omega)))
    have bx2 : ∀ i, w2.cell? ⟨w.heap.size, i, none⟩ = #[Value.int .i64 pc, .slice (some ⟨mb, mo, none⟩) xs.length cap, .int .i64 0][i]? := fun i => (hb2.cell (p := ⟨w.heap.size, i, none⟩) (by show w.heap.size < _; omega)).trans (bx1 i)
    have rs2 : ∀ i, w2.cell? ⟨w.heap.size + 1, i, none⟩ = #[Value.int .i64 0, .slice none 0 0, .int .i64 0][i]? := fun i => (hb2.cell (p := ⟨w.heap.size + 1, i, none⟩) (by show w.heap.size + 1 < _; omega)).trans ((HB1.out.cell (p := ⟨w.heap.size + 1, i, none⟩) (by show w.heap.size + 1 < _; omega)).trans (HH.out.res i))
    have fr2 : ∀ i, w2.frozen? ⟨w.heap.size + 1, i, none⟩ = false := fun i => (hb2.frozen (p := ⟨w.heap.size + 1, i, none⟩) (by show w.heap.size + 1 < _; omega)).trans ((HB1.out.frozen (p := ⟨w.heap.size + 1, i, none⟩) (by show w.heap.size + 1 < _; omega)).trans (HH.out.fres i))
    have mem2 : Hid (∀ k x, xs[k]? = some x → w2.cell? ⟨mb, mo + k, none⟩ = some (.int .i32 x)) := Lib.hid fun k x hx => (HB2.out.cell (p := ⟨mb, mo + k, none⟩) lm).trans (Hk.out k x hx)
    have lr2 : w.heap.size + 1 < w2.heap.size := by omega
    have lb2 : w.heap.size < w2.heap.size := by omega
    have lp2 : pb < w2.heap.size := by omega
    have lg2 : g < w2.heap.size := by have := HH.out.lgb; omega
    have lm2 : mb < w2.heap.size := by omega
    have hlw := lm
    have hpg := HH.out.st.ne
    have hlg := HH.out.lg
    have hlp' := HH.out.lp
    have q0 := HM2.out.st.c0
    have q1 := HM2.out.st.c1
    have q2 := HM2.out.st.c2
    have zp := HM2.out.fp
    have zg := HM2.out.fm
    clear bx1 hb2 hs0 hs1 hs2 hpb hlp
    go_upto_region 12 with (fail)
    obtain ⟨W, hW⟩ : ∃ W, W = (w2.setCell ⟨pb, 0, none⟩ (.int .i64 ((pc : Int) + 1))).alloc (.cells #[.int .i64 19, .int .i64 a, .int .i64 b, .int .i64 c] 58) := ⟨_, rfl⟩
    rw [← hW]
    obtain ⟨HM, HB, bxW, rsW, frW, memW, inW, szW⟩ := rdy HM2.out HB2.out hx0 bx2 rs2 fr2 mem2.out lm HH.out.lp lp2 lg2 hW
    replace HM := Lib.hid HM
    replace HB := Lib.hid HB
    replace memW := Lib.hid memW
    clear hW bx2 rs2 fr2 mem2 HM2 HB2 q0 q1 q2 zp zg
    have q0 := HM.out.st.c0
    have q1 := HM.out.st.c1
    have q2 := HM.out.st.c2
    have zp := HM.out.fp
    have zg := HM.out.fm
    generalize w2.heap.size = ib at *
    have lgW : g < W.heap.size := by omega
    have hbp : ¬ w.heap.size = pb := by omega
    have hbg : ¬ w.heap.size = g := by omega
    have hrp : ¬ w.heap.size + 1 = pb := by omega
    have hrg : ¬ w.heap.size + 1 = g := by omega
    have hig : ¬ ib = g := by omega
    have hip : ¬ ib = pb := by omega
    have hmp : ¬ mb = pb := by omega
    have hmg : ¬ mb = g := by omega
    go_wp2
    refine bodyPost_ret (v := .agg #[.int .i64 (a), .slice (some ⟨g, 0, none⟩) xs.length cap', .int .i64 (0)]) (by simp [results, Tryd.results17, go_sem, *]) rfl ?_
    exact fin (HM.out.setPc _) (HB.out.setCell (by show w.heap.size ≤ pb; omega) _) HH.out.lk hx0 rfl hlg
end Go.Proofs.YteecpkkgjioplaaDoor

/- baizeref15.Step: rstep_20z -/
namespace Go.Proofs.YteecpkkgjioplaaDoor
open Go.RowKit Go

set_option linter.unusedSimpArgs false in
set_option linter.unusedVariables false in
set_option maxRecDepth 100000 in
set_option maxHeartbeats 4000000 in
theorem rstep_20z (pc : Nat) (ad : Addr) (cap : Nat) (xs : List Int) (cv : Value) (l : List Ins) (a b c : Int) (w : World) (h : I32s w (.slice (some ad) xs.length cap) xs) (hl : xs.length ≤ 300) (hr : rightSt pc xs.length 0 = true) (hc : InsS w cv l) (hll : l.length ≤ 300) (hW : W32 xs) (hi' : nextP l pc xs.length = some ⟨20, a, b, c⟩) (hz0 : gx xs b = 0) :
    Calls Tryd.prog 17 #[cv, .agg #[.int .i64 pc, .slice (some ad) xs.length cap, .int .i64 0]] w fun e w' => StPost w (a, xs, 0) e w' := by
  obtain ⟨i0, hi, hz0, hz1, hz2⟩ := info_parts info21
  have hlen : (xs.map (Value.int .i32)).length = xs.length * 1 := by simp
  have hml : 0 + xs.length ≤ maxLen := by unfold maxLen; omega
  have hby : (0 + xs.length) * 4 ≤ 140737488355328 := by omega
  obtain ⟨hri, hpc⟩ := nextP_right hi'
  simp only [Int.toNat_natCast] at hri hpc
  have hx0 : 0 < xs.length := by have := (rightSt_iff.1 hr).1; omega
  obtain ⟨ha0, ha1, hb0, hb1⟩ := right_j (by simp) hri
  obtain ⟨b, rfl⟩ := Int.eq_ofNat_of_zero_le hb0
  have hz : (gx xs b == 0) = true := by simp [hz0]
  clear hz0
  obtain ⟨mb, mo, rfl, lm, hk⟩ := h.look hx0
  have Hk := Lib.hid hk
  have Hn := Lib.hid h
  have Hr := Lib.hid hr
  have Hri := Lib.hid hri
  have Hc := Lib.hid hc
  have Hi := Lib.hid hi'
  have pc0 : (pc : Int) ≤ 300 := by omega
  clear h hr hc hi' hri hk
  go_enter Tryd.func17, Tryd.ntmps17
  go_upto_region 1 with (fail)
  go_cut [5] (fun v5 wc => ∃ pb g cap', v5 = .pointer (some ⟨pb, 0, none⟩) ∧ Head w wc pb g cap' pc (.slice (some ⟨mb, mo, none⟩) xs.length cap) xs 0)
  case first =>
    refine wp_region_held_drew (S := fun w' => w'.cell? ⟨w.heap.size, 0, none⟩ = some (.int .i64 pc) ∧ w'.cell? ⟨w.heap.size, 1, none⟩ = some (.slice (some ⟨mb, mo, none⟩) xs.length cap) ∧ w'.cell? ⟨w.heap.size, 2, none⟩ = some (.int .i64 0)) (by kernel_rfl) (by refine ⟨?_, ?_, ?_⟩ <;> go_simp) (fun hHeld => ?_)
    refine hd_take (i := 0) (some 9) (v := ?v0) rfl rfl (by kernel_rfl) (by kernel_rfl) (by kernel_rfl) (fun _ _ _ h => h) (by rfl) ?h0 (by assumption) ?r0
    case h0 =>
      intro w hSw
      (try dsimp only at hSw)
      go_simp
      (try with_reducible rfl)
    try simp only [Act.put, List.setIfInBounds_toArray, List.set_cons_zero, List.set_cons_succ]
    refine hd_take (i := 1) (some 10) (v := ?v1) rfl rfl (by kernel_rfl) (by kernel_rfl) (by kernel_rfl) (fun _ _ _ h => h) (by rfl) ?h1 (by assumption) ?r1
    case h1 =>
      intro w hSw
      (try dsimp only at hSw)
      go_simp
      (try with_reducible rfl)
    try simp only [Act.put, List.setIfInBounds_toArray, List.set_cons_zero, List.set_cons_succ]
    refine hd_take (i := 3) (some 12) (v := ?v3) rfl rfl (by kernel_rfl) (by kernel_rfl) (by kernel_rfl) (fun _ _ _ h => h) (by rfl) ?h3 (by assumption) ?r3
    case h3 =>
      intro w hSw
      (try dsimp only at hSw)
      go_simp
      (try with_reducible rfl)
    try simp only [Act.put, List.setIfInBounds_toArray, List.set_cons_zero, List.set_cons_succ]
    refine hd_take (i := 4) (some 13) (v := ?v4) rfl rfl (by kernel_rfl) (by kernel_rfl) (by kernel_rfl) (fun _ _ _ h => h) (by rfl) ?h4 (by assumption) ?r4
    case h4 =>
      intro w hSw
      (try dsimp only at hSw)
      go_simp
      (try with_reducible rfl)
    try simp only [Act.put, List.setIfInBounds_toArray, List.set_cons_zero, List.set_cons_succ]
    refine hd_take (i := 6) (some 15) (v := ?v6) rfl rfl (by kernel_rfl) (by kernel_rfl) (by kernel_rfl) (fun _ _ _ h => h) (by rfl) ?h6 (by assumption) ?r6
    case h6 =>
      intro w hSw
      (try dsimp only at hSw)
      go_simp
      (try with_reducible rfl)
    try simp only [Act.put, List.setIfInBounds_toArray, List.set_cons_zero, List.set_cons_succ]
    refine hd_take (i := 7) (some 16) (v := ?v7) rfl rfl (by kernel_rfl) (by kernel_rfl) (by kernel_rfl) (fun _ _ _ h => h) (by rfl) ?h7 (by assumption) ?r7
    case h7 =>
      intro w hSw
      (try dsimp only at hSw)
      go_simp
      (try with_reducible rfl)
    try simp only [Act.put, List.setIfInBounds_toArray, List.set_cons_zero, List.set_cons_succ]
    refine wpAnyH_ready (rs := [2, 9]) (by kernel_rfl) (by simp) ?_
    refine AllReadyH.cons rfl (fun K hK => ?_) (AllReadyH.cons rfl (fun K hK => ?_) AllReadyH.nil)
    · go_simp
      refine hK.out _ _ (by refine ⟨?_, ?_, ?_⟩ <;> go_simp) (fun hH2 => ?_)
      clear hK K
      refine wpAnyH_ready (rs := [5, 9]) (by kernel_rfl) (by simp) ?_
      refine AllReadyH.cons rfl (fun K hK => ?_) (AllReadyH.cons rfl (fun K hK => ?_) AllReadyH.nil)
      · refine step_append_made _ (by rfl) _ _ _ (by rfl) (w.heap.size + 2) 21 i0 _ 1 4 Tryd.underlying23 hi hz0 hz1 hz2 rfl (by omega) ⟨w.heap.size + 2, 0, none⟩ 0 0 [] (by rfl) (by first | exact ownsRow_empty _ _ (by simp) (by omega) | exact ownsRow_empty2 _ _ _ (by simp) (by omega)) ⟨mb, mo, none⟩ xs.length cap (xs.map (Value.int .i32)) (by rfl) hlen (Hn.out.news' (by repeat (first | exact Below.refl _ _ | exact Nat.le_refl _ | apply Below.drew | (refine Below.alloc ?_ (by simp <;> omega) _)))) (one_i32 xs) hml hby (by simp <;> omega) ?_
        intro g cap' w1 hown hgrow
        refine hK.out _ _ (by refine ⟨?_, ?_, ?_⟩ <;> (rw [hgrow.cell_far _ (by simp <;> omega) (by simp <;> omega)]; go_simp)) (fun hH5 => ?_)
        clear hK K
        try simp only [Act.put, List.setIfInBounds_toArray, List.set_cons_zero, List.set_cons_succ]
        rw [Nat.zero_add, List.nil_append] at hown
        rw [Nat.zero_add]
        have hs1 := hgrow.size
        simp at hs1
        refine hd_take (i := 8) (some 17) (v := ?v8x1) rfl rfl (by kernel_rfl) (by kernel_rfl) (by kernel_rfl) (fun _ _ _ h => h) (by rfl) ?h8x1 (by assumption) ?r8x1
        case h8x1 =>
          intro w hSw
          (try dsimp only at hSw)
          go_simp
          (try with_reducible rfl)
        try simp only [Act.put, List.setIfInBounds_toArray, List.set_cons_zero, List.set_cons_succ]
        refine wpAnyH_ready (rs := [9]) (by kernel_rfl) (by simp) ?_
        refine AllReadyH.cons rfl (fun K hK => ?_) AllReadyH.nil
        go_simp
        refine hK.out _ _ (by refine ⟨?_, ?_, ?_⟩ <;> (rw [World.cell?_alloc_past _ _ _ (by omega)]; first | exact hH5.1 | exact hH5.2.1 | exact hH5.2.2)) (fun hH9 => ?_)
        clear hK K
        refine wpAnyH_ready (rs := [10]) (by kernel_rfl) (by simp) ?_
        refine AllReadyH.cons rfl (fun K hK => ?_) AllReadyH.nil
        go_simp
        refine hK.out _ _ (by refine ⟨?_, ?_, ?_⟩ <;> (rw [World.cell?_alloc_past _ _ _ (by omega)]; first | exact hH5.1 | exact hH5.2.1 | exact hH5.2.2)) (fun hH10 => ?_)
        clear hK K
        refine wpAnyH_done (by kernel_rfl) ?_ _
        go_wp2_with fail
        go_meet
        case rel => exact ⟨_, g, cap', rfl, head_new w _ w1 g cap' pc (.slice (some ⟨mb, mo, none⟩) xs.length cap) xs 0 hown hgrow (by repeat (first | exact Below.refl _ _ | exact Nat.le_refl _ | apply Below.drew | (refine Below.alloc ?_ (by simp <;> omega) _))) (by simp <;> omega) (by simp <;> omega) (fun i => by go_simp) (fun i => by go_simp) (fun i => by go_simp)⟩
      · go_simp
        refine hK.out _ _ (by refine ⟨?_, ?_, ?_⟩ <;> go_simp) (fun hH9 => ?_)
        clear hK K
        refine wpAnyH_ready (rs := [5]) (by kernel_rfl) (by simp) ?_
        refine AllReadyH.cons rfl (fun K hK => ?_) AllReadyH.nil
        refine step_append_made _ (by rfl) _ _ _ (by rfl) (w.heap.size + 2) 21 i0 _ 1 4 Tryd.underlying23 hi hz0 hz1 hz2 rfl (by omega) ⟨w.heap.size + 2, 0, none⟩ 0 0 [] (by rfl) (by first | exact ownsRow_empty _ _ (by simp) (by omega) | exact ownsRow_empty2 _ _ _ (by simp) (by omega)) ⟨mb, mo, none⟩ xs.length cap (xs.map (Value.int .i32)) (by rfl) hlen (Hn.out.news' (by repeat (first | exact Below.refl _ _ | exact Nat.le_refl _ | apply Below.drew | (refine Below.alloc ?_ (by simp <;> omega) _)))) (one_i32 xs) hml hby (by simp <;> omega) ?_
        intro g cap' w1 hown hgrow
        refine hK.out _ _ (by refine ⟨?_, ?_, ?_⟩ <;> (rw [hgrow.cell_far _ (by simp <;> omega) (by simp <;> omega)]; go_simp)) (fun hH5 => ?_)
        clear hK K
        try simp only [Act.put, List.setIfInBounds_toArray, List.set_cons_zero, List.set_cons_succ]
        rw [Nat.zero_add, List.nil_append] at hown
        rw [Nat.zero_add]
        have hs1 := hgrow.size
        simp at hs1
        have o0 : ∀ i, w1.cell? ⟨w.heap.size + 3, i, none⟩ = #[Value.int .i64 0, .slice none 0 0, .int .i64 0][i]? := fun i => (hgrow.cell_far _ (by simp <;> omega) (by simp <;> omega)).trans (by go_simp)
        have of : ∀ i, w1.frozen? ⟨w.heap.size + 3, i, none⟩ = false := fun i => (hgrow.frozen_far _ (by simp <;> omega) (by simp <;> omega)).trans (by go_simp)
        refine hd_take (i := 8) (some 17) (v := ?v8x2) rfl rfl (by kernel_rfl) (by kernel_rfl) (by kernel_rfl) (fun _ _ _ h => h) (by rfl) ?h8x2 (by assumption) ?r8x2
        case h8x2 =>
          intro w hSw
          (try dsimp only at hSw)
          go_simp
          (try with_reducible rfl)
        try simp only [Act.put, List.setIfInBounds_toArray, List.set_cons_zero, List.set_cons_succ]
        refine wpAnyH_ready (rs := [10]) (by kernel_rfl) (by simp) ?_
        refine AllReadyH.cons rfl (fun K hK => ?_) AllReadyH.nil
        go_simp
        refine hK.out _ _ (by refine ⟨?_, ?_, ?_⟩ <;> (rw [World.cell?_setCell_far _ _ _ _ (by simp <;> omega), World.cell?_setCell_far _ _ _ _ (by simp <;> omega), World.cell?_setCell_far _ _ _ _ (by simp <;> omega)]; first | exact hH5.1 | exact hH5.2.1 | exact hH5.2.2)) (fun hH10 => ?_)
        clear hK K
        refine wpAnyH_done (by kernel_rfl) ?_ _
        go_wp2_with fail
        go_meet
        case rel => exact ⟨_, g, cap', rfl, head_old w _ w1 _ _ g cap' pc (.slice (some ⟨mb, mo, none⟩) xs.length cap) xs 0 hown hgrow (by repeat (first | exact Below.refl _ _ | exact Nat.le_refl _ | apply Below.drew | (refine Below.alloc ?_ (by simp <;> omega) _))) (by simp <;> omega) (by simp <;> omega) (by simp <;> omega) (by simp <;> omega) (by simp <;> omega) (fun i => by go_simp) (fun i => by go_simp) (fun i => by go_simp) (by first | exact heap_at1 _ _ _ (by simp) | exact heap_at2 _ _ _ _ (by simp))⟩
    · go_simp
      refine hK.out _ _ (by refine ⟨?_, ?_, ?_⟩ <;> go_simp) (fun hH9 => ?_)
      clear hK K
      refine wpAnyH_ready (rs := [2]) (by kernel_rfl) (by simp) ?_
      refine AllReadyH.cons rfl (fun K hK => ?_) AllReadyH.nil
      go_simp
      refine hK.out _ _ (by refine ⟨?_, ?_, ?_⟩ <;> go_simp) (fun hH2 => ?_)
      clear hK K
      refine wpAnyH_ready (rs := [5]) (by kernel_rfl) (by simp) ?_
      refine AllReadyH.cons rfl (fun K hK => ?_) AllReadyH.nil
      refine step_append_made _ (by rfl) _ _ _ (by rfl) (w.heap.size + 2) 21 i0 _ 1 4 Tryd.underlying23 hi hz0 hz1 hz2 rfl (by omega) ⟨w.heap.size + 3, 0, none⟩ 0 0 [] (by rfl) (by first | exact ownsRow_empty _ _ (by simp) (by omega) | exact ownsRow_empty2 _ _ _ (by simp) (by omega)) ⟨mb, mo, none⟩ xs.length cap (xs.map (Value.int .i32)) (by rfl) hlen (Hn.out.news' (by repeat (first | exact Below.refl _ _ | exact Nat.le_refl _ | apply Below.drew | (refine Below.alloc ?_ (by simp <;> omega) _)))) (one_i32 xs) hml hby (by simp <;> omega) ?_
      intro g cap' w1 hown hgrow
      refine hK.out _ _ (by refine ⟨?_, ?_, ?_⟩ <;> (rw [hgrow.cell_far _ (by simp <;> omega) (by simp <;> omega)]; go_simp)) (fun hH5 => ?_)
      clear hK K
      try simp only [Act.put, List.setIfInBounds_toArray, List.set_cons_zero, List.set_cons_succ]
      rw [Nat.zero_add, List.nil_append] at hown
      rw [Nat.zero_add]
      have hs1 := hgrow.size
      simp at hs1
      have o0 : ∀ i, w1.cell? ⟨w.heap.size + 2, i, none⟩ = #[Value.int .i64 0, .slice none 0 0, .int .i64 0][i]? := fun i => (hgrow.cell_far _ (by simp <;> omega) (by simp <;> omega)).trans (by go_simp)
      have of : ∀ i, w1.frozen? ⟨w.heap.size + 2, i, none⟩ = false := fun i => (hgrow.frozen_far _ (by simp <;> omega) (by simp <;> omega)).trans (by go_simp)
      refine hd_take (i := 8) (some 17) (v := ?v8x3) rfl rfl (by kernel_rfl) (by kernel_rfl) (by kernel_rfl) (fun _ _ _ h => h) (by rfl) ?h8x3 (by assumption) ?r8x3
      case h8x3 =>
        intro w hSw
        (try dsimp only at hSw)
        go_simp
        (try with_reducible rfl)
      try simp only [Act.put, List.setIfInBounds_toArray, List.set_cons_zero, List.set_cons_succ]
      refine wpAnyH_ready (rs := [10]) (by kernel_rfl) (by simp) ?_
      refine AllReadyH.cons rfl (fun K hK => ?_) AllReadyH.nil
      go_simp
      refine hK.out _ _ (by refine ⟨?_, ?_, ?_⟩ <;> (rw [World.cell?_setCell_far _ _ _ _ (by simp <;> omega), World.cell?_setCell_far _ _ _ _ (by simp <;> omega), World.cell?_setCell_far _ _ _ _ (by simp <;> omega)]; first | exact hH5.1 | exact hH5.2.1 | exact hH5.2.2)) (fun hH10 => ?_)
      clear hK K
      refine wpAnyH_done (by kernel_rfl) ?_ _
      go_wp2_with fail
      go_meet
      case rel => exact ⟨_, g, cap', rfl, head_old w _ w1 _ _ g cap' pc (.slice (some ⟨mb, mo, none⟩) xs.length cap) xs 0 hown hgrow (by repeat (first | exact Below.refl _ _ | exact Nat.le_refl _ | apply Below.drew | (refine Below.alloc ?_ (by simp <;> omega) _))) (by simp <;> omega) (by simp <;> omega) (by simp <;> omega) (by simp <;> omega) (by simp <;> omega) (fun i => by go_simp) (fun i => by go_simp) (fun i => by go_simp) (by first | exact heap_at1 _ _ _ (by simp) | exact heap_at2 _ _ _ _ (by simp))⟩
  case rest =>
    obtain ⟨pb, g, cap', rfl, hH⟩ := hcut
    have HH := Lib.hid hH
    have bx := hH.box
    clear hH
    go_wp2_with fail
    refine (rright_any pc 0 _ _ _ _).mono ?_
    rintro e w1 ⟨rfl, hb1⟩
    have hs0 := HH.out.below.size
    have hpb := HH.out.lpb
    have hlp := HH.out.lp
    have bx1 : ∀ i, w1.cell? ⟨w.heap.size, i, none⟩ = #[Value.int .i64 pc, .slice (some ⟨mb, mo, none⟩) xs.length cap, .int .i64 0][i]? := fun i => (hb1.cell (p := ⟨w.heap.size, i, none⟩) (by show w.heap.size < _; omega)).trans (bx i)
    have HB1 := Lib.hid hb1
    clear bx hb1
    rw [Hr.out]
    go_wp2_with fail
    refine (rnext_yes pc _ _ _ l cv _ _ Hr.out ((Hc.out.below HH.out.below (Nat.le_refl _)).below HB1.out (Nat.le_refl _)) hll Hi.out).mono ?_
    rintro e w2 ⟨rfl, hb2⟩
    have hs1 := HB1.out.size
    have hs2 := hb2.size
    have HM2 : Hid (MSt w2 pb g cap' pc xs 0) := Lib.hid ((HH.out.st.below hx0 HB1.out).below hx0 hb2)
    have HB2 : Hid (Below w.heap.size w w2) := Lib.hid ((HH.out.below.trans (HB1.out.mono (by omega))).trans (hb2.mono (by omega)))
    have bx2 : ∀ i, w2.cell? ⟨w.heap.size, i, none⟩ = #[Value.int .i64 pc, .slice (some ⟨mb, mo, none⟩) xs.length cap, .int .i64 0][i]? := fun i => (hb2.cell (p := ⟨w.heap.size, i, none⟩) (by show w.heap.size < _; omega)).trans (bx1 i)
    have rs2 : ∀ i, w2.cell? ⟨w.heap.size + 1, i, none⟩ = #[Value.int .i64 0, .slice none 0 0, .int .i64 0][i]? := fun i => (hb2.cell (p := ⟨w.heap.size + 1, i, none⟩) (by show w.heap.size + 1 < _; omega)).trans ((HB1.out.cell (p := ⟨w.heap.size + 1, i, none⟩) (by show w.heap.size + 1 < _; omega)).trans (HH.out.res i))
    have fr2 : ∀ i, w2.frozen? ⟨w.heap.size + 1, i, none⟩ = false := fun i => (hb2.frozen (p := ⟨w.heap.size + 1, i, none⟩) (by show w.heap.size + 1 < _; omega)).trans ((HB1.out.frozen (p := ⟨w.heap.size + 1, i, none⟩) (by show w.heap.size + 1 < _; omega)).trans (HH.out.fres i))
    have mem2 : Hid (∀ k x, xs[k]? = some x → w2.cell? ⟨mb, mo + k, none⟩ = some (.int .i32 x)) := Lib.hid fun k x hx => (HB2.out.cell (p := ⟨mb, mo + k, none⟩) lm).trans (Hk.out k x hx)
    have lr2 : w.heap.size + 1 < w2.heap.size := by omega
    have lb2 : w.heap.size < w2.heap.size := by omega
    have lp2 : pb < w2.heap.size := by omega
    have lg2 : g < w2.heap.size := by have := HH.out.lgb; omega
    have lm2 : mb < w2.heap.size := by omega
    have hlw := lm
    have hpg := HH.out.st.ne
    have hlg := HH.out.lg
    have hlp' := HH.out.lp
    have q0 := HM2.out.st.c0
    have q1 := HM2.out.st.c1
    have q2 := HM2.out.st.c2
    have zp := HM2.out.fp
    have zg := HM2.out.fm
    clear bx1 hb2 hs0 hs1 hs2 hpb hlp
    go_upto_region 12 with (fail)
    obtain ⟨W, hW⟩ : ∃ W, W = (w2.setCell ⟨pb, 0, none⟩ (.int .i64 ((pc : Int) + 1))).alloc (.cells #[.int .i64 20, .int .i64 a, .int .i64 b, .int .i64 c] 58) := ⟨_, rfl⟩
    rw [← hW]
    obtain ⟨HM, HB, bxW, rsW, frW, memW, inW, szW⟩ := rdy HM2.out HB2.out hx0 bx2 rs2 fr2 mem2.out lm HH.out.lp lp2 lg2 hW
    replace HM := Lib.hid HM
    replace HB := Lib.hid HB
    replace memW := Lib.hid memW
    clear hW bx2 rs2 fr2 mem2 HM2 HB2 q0 q1 q2 zp zg
    have q0 := HM.out.st.c0
    have q1 := HM.out.st.c1
    have q2 := HM.out.st.c2
    have zp := HM.out.fp
    have zg := HM.out.fm
    generalize w2.heap.size = ib at *
    have lgW : g < W.heap.size := by omega
    have hbp : ¬ w.heap.size = pb := by omega
    have hbg : ¬ w.heap.size = g := by omega
    have hrp : ¬ w.heap.size + 1 = pb := by omega
    have hrg : ¬ w.heap.size + 1 = g := by omega
    have hig : ¬ ib = g := by omega
    have hip : ¬ ib = pb := by omega
    have hmp : ¬ mb = pb := by omega
    have hmg : ¬ mb = g := by omega
    have rdb := memW.out b _ (gx_at (show b < xs.length by omega))
    have lb : (b : Int) < (xs.length : Int) := by omega
    go_wp2
    refine bodyPost_ret (v := .agg #[.int .i64 (a), .slice (some ⟨g, 0, none⟩) xs.length cap', .int .i64 (0)]) (by simp [results, Tryd.results17, go_sem, *]) rfl ?_
    exact fin (HM.out.setPc _) (HB.out.setCell (by show w.heap.size ≤ pb; omega) _) HH.out.lk hx0 rfl hlg
end Go.Proofs.YteecpkkgjioplaaDoor

/- baizeref15.Step: rstep_20n -/
namespace Go.Proofs.YteecpkkgjioplaaDoor
open Go.RowKit Go

set_option linter.unusedSimpArgs false in
set_option linter.unusedVariables false in
set_option maxRecDepth 100000 in
set_option maxHeartbeats 4000000 in
theorem rstep_20n (pc : Nat) (ad : Addr) (cap : Nat) (xs : List Int) (cv : Value) (l : List Ins) (a b c : Int) (w : World) (h : I32s w (.slice (some ad) xs.length cap) xs) (hl : xs.length ≤ 300) (hr : rightSt pc xs.length 0 = true) (hc : InsS w cv l) (hll : l.length ≤ 300) (hW : W32 xs) (hi' : nextP l pc xs.length = some ⟨20, a, b, c⟩) (hz0 : ¬ gx xs b = 0) :
    Calls Tryd.prog 17 #[cv, .agg #[.int .i64 pc, .slice (some ad) xs.length cap, .int .i64 0]] w fun e w' => StPost w ((pc : Int) + 1, xs, 0) e w' := by
  obtain ⟨i0, hi, hz0, hz1, hz2⟩ := info_parts info21
  have hlen : (xs.map (Value.int .i32)).length = xs.length * 1 := by simp
  have hml : 0 + xs.length ≤ maxLen := by unfold maxLen; omega
  have hby : (0 + xs.length) * 4 ≤ 140737488355328 := by omega
  obtain ⟨hri, hpc⟩ := nextP_right hi'
  simp only [Int.toNat_natCast] at hri hpc
  have hx0 : 0 < xs.length := by have := (rightSt_iff.1 hr).1; omega
  obtain ⟨ha0, ha1, hb0, hb1⟩ := right_j (by simp) hri
  obtain ⟨b, rfl⟩ := Int.eq_ofNat_of_zero_le hb0
  have hz : (gx xs b == 0) = false := by simp [hz0]
  clear hz0
  obtain ⟨mb, mo, rfl, lm, hk⟩ := h.look hx0
  have Hk := Lib.hid hk
  have Hn := Lib.hid h
  have Hr := Lib.hid hr
  have Hri := Lib.hid hri
  have Hc := Lib.hid hc
  have Hi := Lib.hid hi'
  have pc0 : (pc : Int) ≤ 300 := by omega
  clear h hr hc hi' hri hk
  go_enter Tryd.func17, Tryd.ntmps17
  go_upto_region 1 with (fail)
  go_cut [5] (fun v5 wc => ∃ pb g cap', v5 = .pointer (some ⟨pb, 0, none⟩) ∧ Head w wc pb g cap' pc (.slice (some ⟨mb, mo, none⟩) xs.length cap) xs 0)
  case first =>
    refine wp_region_held_drew (S := fun w' => w'.cell? ⟨w.heap.size, 0, none⟩ = some (.int .i64 pc) ∧ w'.cell? ⟨w.heap.size, 1, none⟩ = some (.slice (some ⟨mb, mo, none⟩) xs.length cap) ∧ w'.cell? ⟨w.heap.size, 2, none⟩ = some (.int .i64 0)) (by kernel_rfl) (by refine ⟨?_, ?_, ?_⟩ <;> go_simp) (fun hHeld => ?_)
    refine hd_take (i := 0) (some 9) (v := ?v0) rfl rfl (by kernel_rfl) (by kernel_rfl) (by kernel_rfl) (fun _ _ _ h => h) (by rfl) ?h0 (by assumption) ?r0
    case h0 =>
      intro w hSw
      (try dsimp only at hSw)
      go_simp
      (try with_reducible rfl)
    try simp only [Act.put, List.setIfInBounds_toArray, List.set_cons_zero, List.set_cons_succ]
    refine hd_take (i := 1) (some 10) (v := ?v1) rfl rfl (by kernel_rfl) (by kernel_rfl) (by kernel_rfl) (fun _ _ _ h => h) (by rfl) ?h1 (by assumption) ?r1
    case h1 =>
      intro w hSw
      (try dsimp only at hSw)
      go_simp
      (try with_reducible rfl)
    try simp only [Act.put, List.setIfInBounds_toArray, List.set_cons_zero, List.set_cons_succ]
    refine hd_take (i := 3) (some 12) (v := ?v3) rfl rfl (by kernel_rfl) (by kernel_rfl) (by kernel_rfl) (fun _ _ _ h => h) (by rfl) ?h3 (by assumption) ?r3
    case h3 =>
      intro w hSw
      (try dsimp only at hSw)
      go_simp
      (try with_reducible rfl)
    try simp only [Act.put, List.setIfInBounds_toArray, List.set_cons_zero, List.set_cons_succ]
    refine hd_take (i := 4) (some 13) (v := ?v4) rfl rfl (by kernel_rfl) (by kernel_rfl) (by kernel_rfl) (fun _ _ _ h => h) (by rfl) ?h4 (by assumption) ?r4
    case h4 =>
      intro w hSw
      (try dsimp only at hSw)
      go_simp
      (try with_reducible rfl)
    try simp only [Act.put, List.setIfInBounds_toArray, List.set_cons_zero, List.set_cons_succ]
    refine hd_take (i := 6) (some 15) (v := ?v6) rfl rfl (by kernel_rfl) (by kernel_rfl) (by kernel_rfl) (fun _ _ _ h => h) (by rfl) ?h6 (by assumption) ?r6
    case h6 =>
      intro w hSw
      (try dsimp only at hSw)
      go_simp
      (try with_reducible rfl)
    try simp only [Act.put, List.setIfInBounds_toArray, List.set_cons_zero, List.set_cons_succ]
    refine hd_take (i := 7) (some 16) (v := ?v7) rfl rfl (by kernel_rfl) (by kernel_rfl) (by kernel_rfl) (fun _ _ _ h => h) (by rfl) ?h7 (by assumption) ?r7
    case h7 =>
      intro w hSw
      (try dsimp only at hSw)
      go_simp
      (try with_reducible rfl)
    try simp only [Act.put, List.setIfInBounds_toArray, List.set_cons_zero, List.set_cons_succ]
    refine wpAnyH_ready (rs := [2, 9]) (by kernel_rfl) (by simp) ?_
    refine AllReadyH.cons rfl (fun K hK => ?_) (AllReadyH.cons rfl (fun K hK => ?_) AllReadyH.nil)
    · go_simp
      refine hK.out _ _ (by refine ⟨?_, ?_, ?_⟩ <;> go_simp) (fun hH2 => ?_)
      clear hK K
      refine wpAnyH_ready (rs := [5, 9]) (by kernel_rfl) (by simp) ?_
      refine AllReadyH.cons rfl (fun K hK => ?_) (AllReadyH.cons rfl (fun K hK => ?_) AllReadyH.nil)
      · refine step_append_made _ (by rfl) _ _ _ (by rfl) (w.heap.size + 2) 21 i0 _ 1 4 Tryd.underlying23 hi hz0 hz1 hz2 rfl (by omega) ⟨w.heap.size + 2, 0, none⟩ 0 0 [] (by rfl) (by first | exact ownsRow_empty _ _ (by simp) (by omega) | exact ownsRow_empty2 _ _ _ (by simp) (by omega)) ⟨mb, mo, none⟩ xs.length cap (xs.map (Value.int .i32)) (by rfl) hlen (Hn.out.news' (by repeat (first | exact Below.refl _ _ | exact Nat.le_refl _ | apply Below.drew | (refine Below.alloc ?_ (by simp <;> omega) _)))) (one_i32 xs) hml hby (by simp <;> omega) ?_
        intro g cap' w1 hown hgrow
        refine hK.out _ _ (by refine ⟨?_, ?_, ?_⟩ <;> (rw [hgrow.cell_far _ (by simp <;> omega) (by simp <;> omega)]; go_simp)) (fun hH5 => ?_)
        clear hK K
        try simp only [Act.put, List.setIfInBounds_toArray, List.set_cons_zero, List.set_cons_succ]
        rw [Nat.zero_add, List.nil_append] at hown
        rw [Nat.zero_add]
        have hs1 := hgrow.size
        simp at hs1
        refine hd_take (i := 8) (some 17) (v := ?v8x1) rfl rfl (by kernel_rfl) (by kernel_rfl) (by kernel_rfl) (fun _ _ _ h => h) (by rfl) ?h8x1 (by assumption) ?r8x1
        case h8x1 =>
          intro w hSw
          (try dsimp only at hSw)
          go_simp
          (try with_reducible rfl)
        try simp only [Act.put, List.setIfInBounds_toArray, List.set_cons_zero, List.set_cons_succ]
        refine wpAnyH_ready (rs := [9]) (by kernel_rfl) (by simp) ?_
        refine AllReadyH.cons rfl (fun K hK => ?_) AllReadyH.nil
        go_simp
        refine hK.out _ _ (by refine ⟨?_, ?_, ?_⟩ <;> (rw [World.cell?_alloc_past _ _ _ (by omega)]; first | exact hH5.1 | exact hH5.2.1 | exact hH5.2.2)) (fun hH9 => ?_)
        clear hK K
        refine wpAnyH_ready (rs := [10]) (by kernel_rfl) (by simp) ?_
        refine AllReadyH.cons rfl (fun K hK => ?_) AllReadyH.nil
        go_simp
        refine hK.out _ _ (by refine ⟨?_, ?_, ?_⟩ <;> (rw [World.cell?_alloc_past _ _ _ (by omega)]; first | exact hH5.1 | exact hH5.2.1 | exact hH5.2.2)) (fun hH10 => ?_)
        clear hK K
        refine wpAnyH_done (by kernel_rfl) ?_ _
        go_wp2_with fail
        go_meet
        case rel => exact ⟨_, g, cap', rfl, head_new w _ w1 g cap' pc (.slice (some ⟨mb, mo, none⟩) xs.length cap) xs 0 hown hgrow (by repeat (first | exact Below.refl _ _ | exact Nat.le_refl _ | apply Below.drew | (refine Below.alloc ?_ (by simp <;> omega) _))) (by simp <;> omega) (by simp <;> omega) (fun i => by go_simp) (fun i => by go_simp) (fun i => by go_simp)⟩
      · go_simp
        refine hK.out _ _ (by refine ⟨?_, ?_, ?_⟩ <;> go_simp) (fun hH9 => ?_)
        clear hK K
        refine wpAnyH_ready (rs := [5]) (by kernel_rfl) (by simp) ?_
        refine AllReadyH.cons rfl (fun K hK => ?_) AllReadyH.nil
        refine step_append_made _ (by rfl) _ _ _ (by rfl) (w.heap.size + 2) 21 i0 _ 1 4 Tryd.underlying23 hi hz0 hz1 hz2 rfl (by omega) ⟨w.heap.size + 2, 0, none⟩ 0 0 [] (by rfl) (by first | exact ownsRow_empty _ _ (by simp) (by omega) | exact ownsRow_empty2 _ _ _ (by simp) (by omega)) ⟨mb, mo, none⟩ xs.length cap (xs.map (Value.int .i32)) (by rfl) hlen (Hn.out.news' (by repeat (first | exact Below.refl _ _ | exact Nat.le_refl _ | apply Below.drew | (refine Below.alloc ?_ (by simp <;> omega) _)))) (one_i32 xs) hml hby (by simp <;> omega) ?_
        intro g cap' w1 hown hgrow
        refine hK.out _ _ (by refine ⟨?_, ?_, ?_⟩ <;> (rw [hgrow.cell_far _ (by simp <;> omega) (by simp <;> omega)]; go_simp)) (fun hH5 => ?_)
        clear hK K
        try simp only [Act.put, List.setIfInBounds_toArray, List.set_cons_zero, List.set_cons_succ]
        rw [Nat.zero_add, List.nil_append] at hown
        rw [Nat.zero_add]
        have hs1 := hgrow.size
        simp at hs1
        have o0 : ∀ i, w1.cell? ⟨w.heap.size + 3, i, none⟩ = #[Value.int .i64 0, .slice none 0 0, .int .i64 0][i]? := fun i => (hgrow.cell_far _ (by simp <;> omega) (by simp <;> omega)).trans (by go_simp)
        have of : ∀ i, w1.frozen? ⟨w.heap.size + 3, i, none⟩ = false := fun i => (hgrow.frozen_far _ (by simp <;> omega) (by simp <;> omega)).trans (by go_simp)
        refine hd_take (i := 8) (some 17) (v := ?v8x2) rfl rfl (by kernel_rfl) (by kernel_rfl) (by kernel_rfl) (fun _ _ _ h => h) (by rfl) ?h8x2 (by assumption) ?r8x2
        case h8x2 =>
          intro w hSw
          (try dsimp only at hSw)
          go_simp
          (try with_reducible rfl)
        try simp only [Act.put, List.setIfInBounds_toArray, List.set_cons_zero, List.set_cons_succ]
        refine wpAnyH_ready (rs := [10]) (by kernel_rfl) (by simp) ?_
        refine AllReadyH.cons rfl (fun K hK => ?_) AllReadyH.nil
        go_simp
        refine hK.out _ _ (by refine ⟨?_, ?_, ?_⟩ <;> (rw [World.cell?_setCell_far _ _ _ _ (by simp <;> omega), World.cell?_setCell_far _ _ _ _ (by simp <;> omega), World.cell?_setCell_far _ _ _ _ (by simp <;> omega)]; first | exact hH5.1 | exact hH5.2.1 | exact hH5.2.2)) (fun hH10 => ?_)
        clear hK K
        refine wpAnyH_done (by kernel_rfl) ?_ _
        go_wp2_with fail
        go_meet
        case rel => exact ⟨_, g, cap', rfl, head_old w _ w1 _ _ g cap' pc (.slice (some ⟨mb, mo, none⟩) xs.length cap) xs 0 hown hgrow (by repeat (first | exact Below.refl _ _ | exact Nat.le_refl _ | apply Below.drew | (refine Below.alloc ?_ (by simp <;> omega) _))) (by simp <;> omega) (by simp <;> omega) (by simp <;> omega) (by simp <;> omega) (by simp <;> omega) (fun i => by go_simp) (fun i => by go_simp) (fun i => by go_simp) (by first | exact heap_at1 _ _ _ (by simp) | exact heap_at2 _ _ _ _ (by simp))⟩
    · go_simp
      refine hK.out _ _ (by refine ⟨?_, ?_, ?_⟩ <;> go_simp) (fun hH9 => ?_)
      clear hK K
      refine wpAnyH_ready (rs := [2]) (by kernel_rfl) (by simp) ?_
      refine AllReadyH.cons rfl (fun K hK => ?_) AllReadyH.nil
      go_simp
      refine hK.out _ _ (by refine ⟨?_, ?_, ?_⟩ <;> go_simp) (fun hH2 => ?_)
      clear hK K
      refine wpAnyH_ready (rs := [5]) (by kernel_rfl) (by simp) ?_
      refine AllReadyH.cons rfl (fun K hK => ?_) AllReadyH.nil
      refine step_append_made _ (by rfl) _ _ _ (by rfl) (w.heap.size + 2) 21 i0 _ 1 4 Tryd.underlying23 hi hz0 hz1 hz2 rfl (by omega) ⟨w.heap.size + 3, 0, none⟩ 0 0 [] (by rfl) (by first | exact ownsRow_empty _ _ (by simp) (by omega) | exact ownsRow_empty2 _ _ _ (by simp) (by omega)) ⟨mb, mo, none⟩ xs.length cap (xs.map (Value.int .i32)) (by rfl) hlen (Hn.out.news' (by repeat (first | exact Below.refl _ _ | exact Nat.le_refl _ | apply Below.drew | (refine Below.alloc ?_ (by simp <;> omega) _)))) (one_i32 xs) hml hby (by simp <;> omega) ?_
      intro g cap' w1 hown hgrow
      refine hK.out _ _ (by refine ⟨?_, ?_, ?_⟩ <;> (rw [hgrow.cell_far _ (by simp <;> omega) (by simp <;> omega)]; go_simp)) (fun hH5 => ?_)
      clear hK K
      try simp only [Act.put, List.setIfInBounds_toArray, List.set_cons_zero, List.set_cons_succ]
      rw [Nat.zero_add, List.nil_append] at hown
      rw [Nat.zero_add]
      have hs1 := hgrow.size
      simp at hs1
      have o0 : ∀ i, w1.cell? ⟨w.heap.size + 2, i, none⟩ = #[Value.int .i64 0, .slice none 0 0, .int .i64 0][i]? := fun i => (hgrow.cell_far _ (by simp <;> omega) (by simp <;> omega)).trans (by go_simp)
      have of : ∀ i, w1.frozen? ⟨w.heap.size + 2, i, none⟩ = false := fun i => (hgrow.frozen_far _ (by simp <;> omega) (by simp <;> omega)).trans (by go_simp)
      refine hd_take (i := 8) (some 17) (v := ?v8x3) rfl rfl (by kernel_rfl) (by kernel_rfl) (by kernel_rfl) (fun _ _ _ h => h) (by rfl) ?h8x3 (by assumption) ?r8x3
      case h8x3 =>
        intro w hSw
        (try dsimp only at hSw)
        go_simp
        (try with_reducible rfl)
      try simp only [Act.put, List.setIfInBounds_toArray, List.set_cons_zero, List.set_cons_succ]
      refine wpAnyH_ready (rs := [10]) (by kernel_rfl) (by simp) ?_
      refine AllReadyH.cons rfl (fun K hK => ?_) AllReadyH.nil
      go_simp
      refine hK.out _ _ (by refine ⟨?_, ?_, ?_⟩ <;> (rw [World.cell?_setCell_far _ _ _ _ (by simp <;> omega), World.cell?_setCell_far _ _ _ _ (by simp <;> omega), World.cell?_setCell_far _ _ _ _ (by simp <;> omega)]; first | exact hH5.1 | exact hH5.2.1 | exact hH5.2.2)) (fun hH10 => ?_)
      clear hK K
      refine wpAnyH_done (by kernel_rfl) ?_ _
      go_wp2_with fail
      go_meet
      case rel => exact ⟨_, g, cap', rfl, head_old w _ w1 _ _ g cap' pc (.slice (some ⟨mb, mo, none⟩) xs.length cap) xs 0 hown hgrow (by repeat (first | exact Below.refl _ _ | exact Nat.le_refl _ | apply Below.drew | (refine Below.alloc ?_ (by simp <;> omega) _))) (by simp <;> omega) (by simp <;> omega) (by simp <;> omega) (by simp <;> omega) (by simp <;> omega) (fun i => by go_simp) (fun i => by go_simp) (fun i => by go_simp) (by first | exact heap_at1 _ _ _ (by simp) | exact heap_at2 _ _ _ _ (by simp))⟩
  case rest =>
    obtain ⟨pb, g, cap', rfl, hH⟩ := hcut
    have HH := Lib.hid hH
    have bx := hH.box
    clear hH
    go_wp2_with fail
    refine (rright_any pc 0 _ _ _ _).mono ?_
    rintro e w1 ⟨rfl, hb1⟩
    have hs0 := HH.out.below.size
    have hpb := HH.out.lpb
    have hlp := HH.out.lp
    have bx1 : ∀ i, w1.cell? ⟨w.heap.size, i, none⟩ = #[Value.int .i64 pc, .slice (some ⟨mb, mo, none⟩) xs.length cap, .int .i64 0][i]? := fun i => (hb1.cell (p := ⟨w.heap.size, i, none⟩) (by show w.heap.size < _; omega)).trans (bx i)
    have HB1 := Lib.hid hb1
    clear bx hb1
    rw [Hr.out]
    go_wp2_with fail
    refine (rnext_yes pc _ _ _ l cv _ _ Hr.out ((Hc.out.below HH.out.below (Nat.le_refl _)).below HB1.out (Nat.le_refl _)) hll Hi.out).mono ?_
    rintro e w2 ⟨rfl, hb2⟩
    have hs1 := HB1.out.size
    have hs2 := hb2.size
    have HM2 : Hid (MSt w2 pb g cap' pc xs 0) := Lib.hid ((HH.out.st.below hx0 HB1.out).below hx0 hb2)
    have HB2 : Hid (Below w.heap.size w w2) := Lib.hid ((HH.out.below.trans (HB1.out.mono (by omega))).trans (hb2.mono (by omega)))
    have bx2 : ∀ i, w2.cell? ⟨w.heap.size, i, none⟩ = #[Value.int .i64 pc, .slice (some ⟨mb, mo, none⟩) xs.length cap, .int .i64 0][i]? := fun i => (hb2.cell (p := ⟨w.heap.size, i, none⟩) (by show w.heap.size < _; omega)).trans (bx1 i)
    have rs2 : ∀ i, w2.cell? ⟨w.heap.size + 1, i, none⟩ = #[Value.int .i64 0, .slice none 0 0, .int .i64 0][i]? := fun i => (hb2.cell (p := ⟨w.heap.size + 1, i, none⟩) (by show w.heap.size + 1 < _; omega)).trans ((HB1.out.cell (p := ⟨w.heap.size + 1, i, none⟩) (by show w.heap.size + 1 < _; omega)).trans (HH.out.res i))
    have fr2 : ∀ i, w2.frozen? ⟨w.heap.size + 1, i, none⟩ = false := fun i => (hb2.frozen (p := ⟨w.heap.size + 1, i, none⟩) (by show w.heap.size + 1 < _; omega)).trans ((HB1.out.frozen (p := ⟨w.heap.size + 1, i, none⟩) (by show w.heap.size + 1 < _; omega)).trans (HH.out.fres i))
    have mem2 : Hid (∀ k x, xs[k]? = some x → w2.cell? ⟨mb, mo + k, none⟩ = some (.int .i32 x)) := Lib.hid fun k x hx => (HB2.out.cell (p := ⟨mb, mo + k, none⟩) lm).trans (Hk.out k x hx)
    have lr2 : w.heap.size + 1 < w2.heap.size := by omega
    have lb2 : w.heap.size < w2.heap.size := by omega
    have lp2 : pb < w2.heap.size := by omega
    have lg2 : g < w2.heap.size := by have := HH.out.lgb; omega
    have lm2 : mb < w2.heap.size := by omega
    have hlw := lm
    have hpg := HH.out.st.ne
    have hlg := HH.out.lg
    have hlp' := HH.out.lp
    have q0 := HM2.out.st.c0
    have q1 := HM2.out.st.c1
    have q2 := HM2.out.st.c2
    have zp := HM2.out.fp
    have zg := HM2.out.fm
    clear bx1 hb2 hs0 hs1 hs2 hpb hlp
    go_upto_region 12 with (fail)
    obtain ⟨W, hW⟩ : ∃ W, W = (w2.setCell ⟨pb, 0, none⟩ (.int .i64 ((pc : Int) + 1))).alloc (.cells #[.int .i64 20, .int .i64 a, .int .i64 b, .int .i64 c] 58) := ⟨_, rfl⟩
    rw [← hW]
    obtain ⟨HM, HB, bxW, rsW, frW, memW, inW, szW⟩ := rdy HM2.out HB2.out hx0 bx2 rs2 fr2 mem2.out lm HH.out.lp lp2 lg2 hW
    replace HM := Lib.hid HM
    replace HB := Lib.hid HB
    replace memW := Lib.hid memW
    clear hW bx2 rs2 fr2 mem2 HM2 HB2 q0 q1 q2 zp zg
    have q0 := HM.out.st.c0
    have q1 := HM.out.st.c1
    have q2 := HM.out.st.c2
    have zp := HM.out.fp
    have zg := HM.out.fm
    generalize w2.heap.size = ib at *
    have lgW : g < W.heap.size := by omega
    have hbp : ¬ w.heap.size = pb := by omega
    have hbg : ¬ w.heap.size = g := by omega
    have hrp : ¬ w.heap.size + 1 = pb := by omega
    have hrg : ¬ w.heap.size + 1 = g := by omega
    have hig : ¬ ib = g := by omega
    have hip : ¬ ib = pb := by omega
    have hmp : ¬ mb = pb := by omega
    have hmg : ¬ mb = g := by omega
    have rdb := memW.out b _ (gx_at (show b < xs.length by omega))
    have lb : (b : Int) < (xs.length : Int) := by omega
    go_wp2
    refine bodyPost_ret (v := .agg #[.int .i64 ((pc : Int) + 1), .slice (some ⟨g, 0, none⟩) xs.length cap', .int .i64 (0)]) (by simp [results, Tryd.results17, go_sem, *]) rfl ?_
    exact fin HM.out HB.out HH.out.lk hx0 rfl hlg
end Go.Proofs.YteecpkkgjioplaaDoor
