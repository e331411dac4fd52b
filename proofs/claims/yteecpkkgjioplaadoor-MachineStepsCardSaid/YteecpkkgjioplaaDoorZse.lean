/- Texts of the proof, part 5 of 7. -/
import Derived.StillTailTactics
import Derived.Calls
import Derived.Orders
import Derived.LoopN
import Derived.KernelRfl
import Derived.Laws.World
import Derived.Laws.Cells
import Derived.Laws.Append
import Derived.Laws.AppendOwn
import Derived.Laws.StructEq
import Derived.ChangeKeysEq
import Derived.Test.YteecpkkgjioplaaDoorZsa
import Derived.Test.YteecpkkgjioplaaDoorZsb
import Derived.Test.YteecpkkgjioplaaDoorZsc
import Derived.Test.YteecpkkgjioplaaDoorZsd

/- baizeref15.Step: rstep_21z -/
namespace Go.Proofs.YteecpkkgjioplaaDoor
open Go.RowKit Go

set_option linter.unusedSimpArgs false in
set_option linter.unusedVariables false in
set_option maxRecDepth 100000 in
set_option maxHeartbeats 4000000 in
theorem rstep_21z (pc : Nat) (ad : Addr) (cap : Nat) (xs : List Int) (cv : Value) (l : List Ins) (a b c : Int) (w : World) (h : I32s w (.slice (some ad) xs.length cap) xs) (hl : xs.length ≤ 300) (hr : rightSt pc xs.length 0 = true) (hc : InsS w cv l) (hll : l.length ≤ 300) (hW : W32 xs) (hi' : nextP l pc xs.length = some ⟨21, a, b, c⟩) (hz0 : gx xs b = 0) :
    Calls Tryd.prog 17 #[cv, .agg #[.int .i64 pc, .slice (some ad) xs.length cap, .int .i64 0]] w fun e w' => StPost w ((pc : Int) + 1, xs, 0) e w' := by
  obtain ⟨i0, hi, hz0, hz1, hz2⟩ := info_parts info21
  have hlen : (xs.map (Value.int .i32)).length = xs.length * 1 := by simp
  have hml : 0 + xs.length ≤ maxLen := by unfold maxLen; omega
  have hby : (0 + xs.length) * 4 ≤ 140737488355328 := by omega
  obtain ⟨hri, hpc⟩ := nextP_right hi'
  simp only [Int.toNat_natCast] at hri hpc
  have hx0 : 0 < xs.length := by have := (rightSt_iff.1 hr).1; omega
  obtain ⟨ha0, ha1, hb0, hb1⟩ := right_j (by simp) hri
  obtain ⟨b, rfl⟩ := Int.eq_ofNat_of_zero_le hb0
  have hz : (gx xs b == 0) = true := by simp [hz0]
  clear hz0
  obtain ⟨mb, mo, rfl, lm, hk⟩ := h.look hx0
  have Hk := Lib.hid hk
  have Hn := Lib.hid h
  have Hr := Lib.hid hr
  have Hri := Lib.hid hri
  have Hc := Lib.hid hc
  have Hi := Lib.hid hi'
  have pc0 : (pc : Int) ≤ 300 := by omega
  clear h hr hc hi' hri hk
  go_enter Tryd.func17, Tryd.ntmps17
  go_upto_region 1 with (fail)
  go_cut [5] (fun v5 wc => ∃ pb g cap', v5 = .pointer (some ⟨pb, 0, none⟩) ∧ Head w wc pb g cap' pc (.slice (some ⟨mb, mo, none⟩) xs.length cap) xs 0)
  case first =>
    refine wp_region_held_drew (S := fun w' => w'.cell? ⟨w.heap.size, 0, none⟩ = some (.int .i64 pc) ∧ w'.cell? ⟨w.heap.size, 1, none⟩ = some (.slice (some ⟨mb, mo, none⟩) xs.length cap) ∧ w'.cell? ⟨w.heap.size, 2, none⟩ = some (.int .i64 0)) (by kernel_rfl) (by refine ⟨?_, ?_, ?_⟩ <;> go_simp) (fun hHeld => ?_)
    refine hd_take (i := 0) (some 9) (v := ?v0) rfl rfl (by kernel_rfl) (by kernel_rfl) (by kernel_rfl) (fun _ _ _ h => h) (by rfl) ?h0 (by assumption) ?r0
    case h0 =>
      intro w hSw
      (try dsimp only at hSw)
      go_simp
      (try with_reducible rfl)
    try simp only [Act.put, List.setIfInBounds_toArray, List.set_cons_zero, List.set_cons_succ]
    refine hd_take (i := 1) (some 10) (v := ?v1) rfl rfl (by kernel_rfl) (by kernel_rfl) (by kernel_rfl) (fun _ _ _ h => h) (by rfl) ?h1 (by assumption) ?r1
    case h1 =>
      intro w hSw
      (try dsimp only at hSw)
      go_simp
      (try with_reducible rfl)
    try simp only [Act.put, List.setIfInBounds_toArray, List.set_cons_zero, List.set_cons_succ]
    refine hd_take (i := 3) (some 12) (v := ?v3) rfl rfl (by kernel_rfl) (by kernel_rfl) (by kernel_rfl) (fun _ _ _ h => h) (by rfl) ?h3 (by assumption) ?r3
    case h3 =>
      intro w hSw
      (try dsimp only at hSw)
      go_simp
      (try with_reducible rfl)
    try simp only [Act.put, List.setIfInBounds_toArray, List.set_cons_zero, List.set_cons_succ]
    refine hd_take (i := 4) (some 13) (v := ?v4) rfl rfl (by kernel_rfl) (by kernel_rfl) (by kernel_rfl) (fun _ _ _ h => h) (by rfl) ?h4 (by assumption) ?r4
    case h4 =>
      intro w hSw
      (try dsimp only at hSw)
      go_simp
      (try with_reducible rfl)
    try simp only [Act.put, List.setIfInBounds_toArray, List.set_cons_zero, List.set_cons_succ]
    refine hd_take (i := 6) (some 15) (v := ?v6) rfl rfl (by kernel_rfl) (by kernel_rfl) (by kernel_rfl) (fun _ _ _ h => h) (by rfl) ?h6 (by assumption) ?r6
    case h6 =>
      intro w hSw
      (try dsimp only at hSw)
      go_simp
      (try with_reducible rfl)
    try simp only [Act.put, List.setIfInBounds_toArray, List.set_cons_zero, List.set_cons_succ]
    refine hd_take (i := 7) (some 16) (v := ?v7) rfl rfl (by kernel_rfl) (by kernel_rfl) (by kernel_rfl) (fun _ _ _ h => h) (by rfl) ?h7 (by assumption) ?r7
    case h7 =>
      intro w hSw
      (try dsimp only at hSw)
      go_simp
      (try with_reducible rfl)
    try simp only [Act.put, List.setIfInBounds_toArray, List.set_cons_zero, List.set_cons_succ]
    refine wpAnyH_ready (rs := [2, 9]) (by kernel_rfl) (by simp) ?_
    refine AllReadyH.cons rfl (fun K hK => ?_) (AllReadyH.cons rfl (fun K hK => ?_) AllReadyH.nil)
    · go_simp
      refine hK.out _ _ (by refine ⟨?_, ?_, ?_⟩ <;> go_simp) (fun hH2 => ?_)
      clear hK K
      refine wpAnyH_ready (rs := [5, 9]) (by kernel_rfl) (by simp) ?_
      refine AllReadyH.cons rfl (fun K hK => ?_) (AllReadyH.cons rfl (fun K hK => ?_) AllReadyH.nil)
      · refine step_append_made _ (by rfl) _ _ _ (by rfl) (w.heap.size + 2) 21 i0 _ 1 4 Tryd.underlying23 hi hz0 hz1 hz2 rfl (by omega) ⟨w.heap.size + 2, 0, none⟩ 0 0 [] (by rfl) (by first | exact ownsRow_empty _ _ (by simp) (by omega) | exact ownsRow_empty2 _ _ _ (by simp) (by omega)) ⟨mb, mo, none⟩ xs.length cap (xs.map (Value.int .i32)) (by rfl) hlen (Hn.out.news' (by repeat (first | exact Below.refl _ _ | exact Nat.le_refl _ | apply Below.drew | (refine Below.alloc ?_ (by simp <;> omega) _)))) (one_i32 xs) hml hby (by simp <;> omega) ?_
        intro g cap' w1 hown hgrow
        refine hK.out _ _ (by refine ⟨?_, ?_, ?_⟩ <;> (rw [hgrow.cell_far _ (by simp <;> omega) (by simp <;> omega)]; go_simp)) (fun hH5 => ?_)
        clear hK K
        try simp only [Act.put, List.setIfInBounds_toArray, List.set_cons_zero, List.set_cons_succ]
        rw [Nat.zero_add, List.nil_append] at hown
        rw [Nat.zero_add]
        have hs1 := hgrow.size
        simp at hs1
        refine hd_take (i := 8) (some 17) (v := ?v8x1) rfl rfl (by kernel_rfl) (by kernel_rfl) (by kernel_rfl) (fun _ _ _ h => h) (by rfl) ?h8x1 (by assumption) ?r8x1
        case h8x1 =>
          intro w hSw
          (try dsimp only at hSw)
          go_simp
          (try with_reducible rfl)
        try simp only [Act.put, List.setIfInBounds_toArray, List.set_cons_zero, List.set_cons_succ]
        refine wpAnyH_ready (rs := [9]) (by kernel_rfl) (by simp) ?_
        refine AllReadyH.cons rfl (fun K hK => ?_) AllReadyH.nil
        go_simp
        refine hK.out _ _ (by refine ⟨?_, ?_, ?_⟩ <;> (rw [World.cell?_alloc_past _ _ _ (by omega)]; first | exact hH5.1 | exact hH5.2.1 | exact hH5.2.2)) (fun hH9 => ?_)
        clear hK K
        refine wpAnyH_ready (rs := [10]) (by kernel_rfl) (by simp) ?_
        refine AllReadyH.cons rfl (fun K hK => ?_) AllReadyH.nil
        go_simp
        refine hK.out _ _ (by refine ⟨?_, ?_, ?_⟩ <;> (rw [World.cell?_alloc_past _ _ _ (by omega)]; first | exact hH5.1 | exact hH5.2.1 | exact hH5.2.2)) (fun hH10 => ?_)
        clear hK K
        refine wpAnyH_done (by kernel_rfl) ?_ _
        go_wp2_with fail
        go_meet
        case rel => exact ⟨_, g, cap', rfl, head_new w _ w1 g cap' pc (.slice (some ⟨mb, mo, none⟩) xs.length cap) xs 0 hown hgrow (by repeat (first | exact Below.refl _ _ | exact Nat.le_refl _ | apply Below.drew | (refine Below.alloc ?_ (by simp <;> omega) _))) (by simp <;> omega) (by simp <;> omega) (fun i => by go_simp) (fun i => by go_simp) (fun i => by go_simp)⟩
      · go_simp
        refine hK.out _ _ (by refine ⟨?_, ?_, ?_⟩ <;> go_simp) (fun hH9 => ?_)
        clear hK K
        refine wpAnyH_ready (rs := [5]) (by kernel_rfl) (by simp) ?_
        refine AllReadyH.cons rfl (fun K hK => ?_) AllReadyH.nil
        refine step_append_made _ (by rfl) _ _ _ (by rfl) (w.heap.size + 2) 21 i0 _ 1 4 Tryd.underlying23 hi hz0 hz1 hz2 rfl (by omega) ⟨w.heap.size + 2, 0, none⟩ 0 0 [] (by rfl) (by first | exact ownsRow_empty _ _ (by simp) (by omega) | exact ownsRow_empty2 _ _ _ (by simp) (by omega)) ⟨mb, mo, none⟩ xs.length cap (xs.map (Value.int .i32)) (by rfl) hlen (Hn.out.news' (by repeat (first | exact Below.refl _ _ | exact Nat.le_refl _ | apply Below.drew | (refine Below.alloc ?_ (by simp <;> omega) _)))) (one_i32 xs) hml hby (by simp <;> omega) ?_
        intro g cap' w1 hown hgrow
        refine hK.out _ _ (by refine ⟨?_, ?_, ?_⟩ <;> (rw [hgrow.cell_far _ (by simp <;> omega) (by simp <;> omega)]; go_simp)) (fun hH5 => ?_)
        clear hK K
        try simp only [Act.put, List.setIfInBounds_toArray, List.set_cons_zero, List.set_cons_succ]
        rw [Nat.zero_add, List.nil_append] at hown
        rw [Nat.zero_add]
        have hs1 := hgrow.size
        simp at hs1
        have o0 : ∀ i, w1.cell? ⟨w.heap.size + 3, i, none⟩ = #[Value.int .i64 0, .slice none 0 0, .int .i64 0][i]? := fun i => (hgrow.cell_far _ (by simp <;> omega) (by simp <;> omega)).trans (by go_simp)
        have of : ∀ i, w1.frozen? ⟨w.heap.size + 3, i, none⟩ = false := fun i => (hgrow.frozen_far _ (by simp <;> omega) (by simp <;> omega)).trans (by go_simp)
        refine hd_take (i := 8) (some 17) (v := ?v8x2) rfl rfl (by kernel_rfl) (by kernel_rfl) (by kernel_rfl) (fun _ _ _ h => h) (by rfl) ?h8x2 (by assumption) ?r8x2
        case h8x2 =>
          intro w hSw
          (try dsimp only at hSw)
          go_simp
          (try with_reducible rfl)
        try simp only [Act.put, List.setIfInBounds_toArray, List.set_cons_zero, List.set_cons_succ]
        refine wpAnyH_ready (rs := [10]) (by kernel_rfl) (by simp) ?_
        refine AllReadyH.cons rfl (fun K hK => ?_) AllReadyH.nil
        go_simp
        refine hK.out _ _ (by refine ⟨?_, ?_, ?_⟩ <;> (rw [World.cell?_setCell_far _ _ _ _ (by simp <;> omega), World.cell?_setCell_far _ _ _ _ (by simp <;> omega), World.cell?_setCell_far _ _ _ _ (by simp <;> omega)]; first | exact hH5.1 | exact hH5.2.1 | exact hH5.2.2)) (fun hH10 => ?_)
        clear hK K
        refine wpAnyH_done (by kernel_rfl) ?_ _
        go_wp2_with fail
        go_meet
        case rel => exact ⟨_, g, cap', rfl, head_old w _ w1 _ _ g cap' pc (.slice (some ⟨mb, mo, none⟩) xs.length cap) xs 0 hown hgrow (by repeat (first | exact Below.refl _ _ | exact Nat.le_refl _ | apply Below.drew | (refine Below.alloc ?_ (by simp <;> omega) _))) (by simp <;> omega) (by simp <;> omega) (by simp <;> omega) (by simp <;> omega) (by simp <;> omega) (fun i => by go_simp) (fun i => by go_simp) (fun i => by go_simp) (by first | exact heap_at1 _ _ _ (by simp) | exact heap_at2 _ _ _ _ (by simp))⟩
    · go_simp
      refine hK.out _ _ (by refine ⟨?_, ?_, ?_⟩ <;> go_simp) (fun hH9 => ?_)
      clear hK K
      refine wpAnyH_ready (rs := [2]) (by kernel_rfl) (by simp) ?_
      refine AllReadyH.cons rfl (fun K hK => ?_) AllReadyH.nil
      go_simp
      refine hK.out _ _ (by refine ⟨?_, ?_, ?_⟩ <;> go_simp) (fun hH2 => ?_)
      clear hK K
      refine wpAnyH_ready (rs := [5]) (by kernel_rfl) (by simp) ?_
      refine AllReadyH.cons rfl (fun K hK => ?_) AllReadyH.nil
      refine step_append_made _ (by rfl) _ _ _ (by rfl) (w.heap.size + 2) 21 i0 _ 1 4 Tryd.underlying23 hi hz0 hz1 hz2 rfl (by omega) ⟨w.heap.size + 3, 0, none⟩ 0 0 [] (by rfl) (by first | exact ownsRow_empty _ _ (by simp) (by omega) | exact ownsRow_empty2 _ _ _ (by simp) (by omega)) ⟨mb, mo, none⟩ xs.length cap (xs.map (Value.int .i32)) (by rfl) hlen (Hn.out.news' (by repeat (first | exact Below.refl _ _ | exact Nat.le_refl _ | apply Below.drew | (refine Below.alloc ?_ (by simp <;> omega) _)))) (one_i32 xs) hml hby (by simp <;> omega) ?_
      intro g cap' w1 hown hgrow
      refine hK.out _ _ (by refine ⟨?_, ?_, ?_⟩ <;> (rw [hgrow.cell_far _ (by simp <;> omega) (by simp <;> omega)]; go_simp)) (fun hH5 => ?_)
      clear hK K
      try simp only [Act.put, List.setIfInBounds_toArray, List.set_cons_zero, List.set_cons_succ]
      rw [Nat.zero_add, List.nil_append] at hown
      rw [Nat.zero_add]
      have hs1 := hgrow.size
      simp at hs1
      have o0 : ∀ i, w1.cell? ⟨w.heap.size + 2, i, none⟩ = #[Value.int .i64 0, .slice none 0 0, .int .i64 0][i]? := fun i => (hgrow.cell_far _ (by simp <;> omega) (by simp <;> omega)).trans (by go_simp)
      have of : ∀ i, w1.frozen? ⟨w.heap.size + 2, i, none⟩ = false := fun i => (hgrow.frozen_far _ (by simp <;> omega) (by simp <;> omega)).trans (by go_simp)
      refine hd_take (i := 8) (some 17) (v := ?v8x3) rfl rfl (by kernel_rfl) (by kernel_rfl) (by kernel_rfl) (fun _ _ _ h => h) (by rfl) ?h8x3 (by assumption) ?r8x3
      case h8x3 =>
        intro w hSw
        (try dsimp only at hSw)
        go_simp
        (try with_reducible rfl)
      try simp only [Act.put, List.setIfInBounds_toArray, List.set_cons_zero, List.set_cons_succ]
      refine wpAnyH_ready (rs := [10]) (by kernel_rfl) (by simp) ?_
      refine AllReadyH.cons rfl (fun K hK => ?_) AllReadyH.nil
      go_simp
      refine hK.out _ _ (by refine ⟨?_, ?_, ?_⟩ <;> (rw [World.cell?_setCell_far _ _ _ _ (by simp <;> omega), World.cell?_setCell_far _ _ _ _ (by simp <;> omega), World.cell?_setCell_far _ _ _ _ (by simp <;> omega)]; first | exact hH5.1 | exact hH5.2.1 | exact hH5.2.2)) (fun hH10 => ?_)
      clear hK K
      refine wpAnyH_done (by kernel_rfl) ?_ _
      go_wp2_with fail
      go_meet
      case rel => exact ⟨_, g, cap', rfl, head_old w _ w1 _ _ g cap' pc (.slice (some ⟨mb, mo, none⟩) xs.length cap) xs 0 hown hgrow (by repeat (first | exact Below.refl _ _ | exact Nat.le_refl _ | apply Below.drew | (refine Below.alloc ?_ (by simp <;> omega) _))) (by simp <;> omega) (by simp <;> omega) (by simp <;> omega) (by simp <;> omega) (by simp <;> omega) (fun i => by go_simp) (fun i => by go_simp) (fun i => by go_simp) (by first | exact heap_at1 _ _ _ (by simp) | exact heap_at2 _ _ _ _ (by simp))⟩
  case rest =>
    obtain ⟨pb, g, cap', rfl, hH⟩ := hcut
    have HH := Lib.hid hH
    have bx := hH.box
    clear hH
    go_wp2_with fail
    refine (rright_any pc 0 _ _ _ _).mono ?_
    rintro e w1 ⟨rfl, hb1⟩
    have hs0 := HH.out.below.size
    have hpb := HH.out.lpb
    have hlp := HH.out.lp
    have bx1 : ∀ i, w1.cell? ⟨w.heap.size, i, none⟩ = #[Value.int .i64 pc, .slice (some ⟨mb, mo, none⟩) xs.length cap, .int .i64 0][i]? := fun i => (hb1.cell (p := ⟨w.heap.size, i, none⟩) (by show w.heap.size < _; omega)).trans (bx i)
    have HB1 := Lib.hid hb1
    clear bx hb1
    rw [Hr.out]
    go_wp2_with fail
    refine (rnext_yes pc _ _ _ l cv _ _ Hr.out ((Hc.out.below HH.out.below (Nat.le_refl _)).below HB1.out (Nat.le_refl _)) hll Hi.out).mono ?_
    rintro e w2 ⟨rfl, hb2⟩
    have hs1 := HB1.out.size
    have hs2 := hb2.size
    have HM2 : Hid (MSt w2 pb g cap' pc xs 0) := Lib.hid ((HH.out.st.below hx0 HB1.out).below hx0 hb2)
    have HB2 : Hid (Below w.heap.size w w2) := Lib.hid ((HH.out.below.trans (HB1.out.mono (by omega))).trans (hb2.mono (by omega)))
    have bx2 : ∀ i, w2.cell? ⟨w.heap.size, i, none⟩ = #[Value.int .i64 pc, .slice (some ⟨mb, mo, none⟩) xs.length cap, .int .i64 0][i]? := fun i => (hb2.cell (p := ⟨w.heap.size, i, none⟩) (by show w.heap.size < _; omega)).trans (bx1 i)
    have rs2 : ∀ i, w2.cell? ⟨w.heap.size + 1, i, none⟩ = #[Value.int .i64 0, .slice none 0 0, .int .i64 0][i]? := fun i => (hb2.cell (p := ⟨w.heap.size + 1, i, none⟩) (by show w.heap.size + 1 < _; omega)).trans ((HB1.out.cell (p := ⟨w.heap.size + 1, i, none⟩) (by show w.heap.size + 1 < _; omega)).trans (HH.out.res i))
    have fr2 : ∀ i, w2.frozen? ⟨w.heap.size + 1, i, none⟩ = false := fun i => (hb2.frozen (p := ⟨w.heap.size + 1, i, none⟩) (by show w.heap.size + 1 < _; omega)).trans ((HB1.out.frozen (p := ⟨w.heap.size + 1, i, none⟩) (by show w.heap.size + 1 < _; omega)).trans (HH.out.fres i))
    have mem2 : Hid (∀ k x, xs[k]? = some x → w2.cell? ⟨mb, mo + k, none⟩ = some (.int .i32 x)) := Lib.hid fun k x hx => (HB2.out.cell (p := ⟨mb, mo + k, none⟩) lm).trans (Hk.out k x hx)
    have lr2 : w.heap.size + 1 < w2.heap.size := by omega
    have lb2 : w.heap.size < w2.heap.size := by omega
    have lp2 : pb < w2.heap.size := by omega
    have lg2 : g < w2.heap.size := by have := HH.out.lgb; omega
    have lm2 : mb < w2.heap.size := by omega
    have hlw := lm
    have hpg := HH.out.st.ne
    have hlg := HH.out.lg
    have hlp' := HH.out.lp
    have q0 := HM2.out.st.c0
    have q1 := HM2.out.st.c1
    have q2 := HM2.out.st.c2
    have zp := HM2.out.fp
    have zg := HM2.out.fm
    clear bx1 hb2 hs0 hs1 hs2 hpb hlp
    go_upto_region 12 with (fail)
    obtain ⟨W, hW⟩ : ∃ W, W = (w2.setCell ⟨pb, 0, none⟩ (.int .i64 ((pc : Int) + 1))).alloc (.cells #[.int .i64 21, .int .i64 a, .int .i64 b, .int .i64 c] 58) := ⟨_, rfl⟩
    rw [← hW]
    obtain ⟨HM, HB, bxW, rsW, frW, memW, inW, szW⟩ := rdy HM2.out HB2.out hx0 bx2 rs2 fr2 mem2.out lm HH.out.lp lp2 lg2 hW
    replace HM := Lib.hid HM
    replace HB := Lib.hid HB
    replace memW := Lib.hid memW
    clear hW bx2 rs2 fr2 mem2 HM2 HB2 q0 q1 q2 zp zg
    have q0 := HM.out.st.c0
    have q1 := HM.out.st.c1
    have q2 := HM.out.st.c2
    have zp := HM.out.fp
    have zg := HM.out.fm
    generalize w2.heap.size = ib at *
    have lgW : g < W.heap.size := by omega
    have hbp : ¬ w.heap.size = pb := by omega
    have hbg : ¬ w.heap.size = g := by omega
    have hrp : ¬ w.heap.size + 1 = pb := by omega
    have hrg : ¬ w.heap.size + 1 = g := by omega
    have hig : ¬ ib = g := by omega
    have hip : ¬ ib = pb := by omega
    have hmp : ¬ mb = pb := by omega
    have hmg : ¬ mb = g := by omega
    have rdb := memW.out b _ (gx_at (show b < xs.length by omega))
    have lb : (b : Int) < (xs.length : Int) := by omega
    go_wp2
    refine bodyPost_ret (v := .agg #[.int .i64 ((pc : Int) + 1), .slice (some ⟨g, 0, none⟩) xs.length cap', .int .i64 (0)]) (by simp [results, Tryd.results17, go_sem, *]) rfl ?_
    exact fin HM.out HB.out HH.out.lk hx0 rfl hlg
end Go.Proofs.YteecpkkgjioplaaDoor

/- baizeref15.Step: rstep_21n -/
namespace Go.Proofs.YteecpkkgjioplaaDoor
open Go.RowKit Go

set_option linter.unusedSimpArgs false in
set_option linter.unusedVariables false in
set_option maxRecDepth 100000 in
set_option maxHeartbeats 4000000 in
theorem rstep_21n (pc : Nat) (ad : Addr) (cap : Nat) (xs : List Int) (cv : Value) (l : List Ins) (a b c : Int) (w : World) (h : I32s w (.slice (some ad) xs.length cap) xs) (hl : xs.length ≤ 300) (hr : rightSt pc xs.length 0 = true) (hc : InsS w cv l) (hll : l.length ≤ 300) (hW : W32 xs) (hi' : nextP l pc xs.length = some ⟨21, a, b, c⟩) (hz0 : ¬ gx xs b = 0) :
    Calls Tryd.prog 17 #[cv, .agg #[.int .i64 pc, .slice (some ad) xs.length cap, .int .i64 0]] w fun e w' => StPost w (a, xs, 0) e w' := by
  obtain ⟨i0, hi, hz0, hz1, hz2⟩ := info_parts info21
  have hlen : (xs.map (Value.int .i32)).length = xs.length * 1 := by simp
  have hml : 0 + xs.length ≤ maxLen := by unfold maxLen; omega
  have hby : (0 + xs.length) * 4 ≤ 140737488355328 := by omega
  obtain ⟨hri, hpc⟩ := nextP_right hi'
  simp only [Int.toNat_natCast] at hri hpc
  have hx0 : 0 < xs.length := by have := (rightSt_iff.1 hr).1; omega
  obtain ⟨ha0, ha1, hb0, hb1⟩ := right_j (by simp) hri
  obtain ⟨b, rfl⟩ := Int.eq_ofNat_of_zero_le hb0
  have hz : (gx xs b == 0) = false := by simp [hz0]
  clear hz0
  obtain ⟨mb, mo, rfl, lm, hk⟩ := h.look hx0
  have Hk := Lib.hid hk
  have Hn := Lib.hid h
  have Hr := Lib.hid hr
  have Hri := Lib.hid hri
  have Hc := Lib.hid hc
  have Hi := Lib.hid hi'
  have pc0 : (pc : Int) ≤ 300 := by omega
  clear h hr hc hi' hri hk
  go_enter Tryd.func17, Tryd.ntmps17
  go_upto_region 1 with (fail)
  go_cut [5] (fun v5 wc => ∃ pb g cap', v5 = .pointer (some ⟨pb, 0, none⟩) ∧ Head w wc pb g cap' pc (.slice (some ⟨mb, mo, none⟩) xs.length cap) xs 0)
  case first =>
    refine wp_region_held_drew (S := fun w' => w'.cell? ⟨w.heap.size, 0, none⟩ = some (.int .i64 pc) ∧ w'.cell? ⟨w.heap.size, 1, none⟩ = some (.slice (some ⟨mb, mo, none⟩) xs.length cap) ∧ w'.cell? ⟨w.heap.size, 2, none⟩ = some (.int .i64 0)) (by kernel_rfl) (by refine ⟨?_, ?_, ?_⟩ <;> go_simp) (fun hHeld => ?_)
    refine hd_take (i := 0) (some 9) (v := ?v0) rfl rfl (by kernel_rfl) (by kernel_rfl) (by kernel_rfl) (fun _ _ _ h => h) (by rfl) ?h0 (by assumption) ?r0
    case h0 =>
      intro w hSw
      (try dsimp only at hSw)
      go_simp
      (try with_reducible rfl)
    try simp only [Act.put, List.setIfInBounds_toArray, List.set_cons_zero, List.set_cons_succ]
    refine hd_take (i := 1) (some 10) (v := ?v1) rfl rfl (by kernel_rfl) (by kernel_rfl) (by kernel_rfl) (fun _ _ _ h => h) (by rfl) ?h1 (by assumption) ?r1
    case h1 =>
      intro w hSw
      (try dsimp only at hSw)
      go_simp
      (try with_reducible rfl)
    try simp only [Act.put, List.setIfInBounds_toArray, List.set_cons_zero, List.set_cons_succ]
    refine hd_take (i := 3) (some 12) (v := ?v3) rfl rfl (by kernel_rfl) (by kernel_rfl) (by kernel_rfl) (fun _ _ _ h => h) (by rfl) ?h3 (by assumption) ?r3
    case h3 =>
      intro w hSw
      (try dsimp only at hSw)
      go_simp
      (try with_reducible rfl)
    try simp only [Act.put, List.setIfInBounds_toArray, List.set_cons_zero, List.set_cons_succ]
    refine hd_take (i := 4) (some 13) (v := ?v4) rfl rfl (by kernel_rfl) (by kernel_rfl) (by kernel_rfl) (fun _ _ _ h => h) (by rfl) ?h4 (by assumption) ?r4
    case h4 =>
      intro w hSw
      (try dsimp only at hSw)
      go_simp
      (try with_reducible rfl)
    try simp only [Act.put, List.setIfInBounds_toArray, List.set_cons_zero, List.set_cons_succ]
    refine hd_take (i := 6) (some 15) (v := ?v6) rfl rfl (by kernel_rfl) (by kernel_rfl) (by kernel_rfl) (fun _ _ _ h => h) (by rfl) ?h6 (by assumption) ?r6
    case h6 =>
      intro w hSw
      (try dsimp only at hSw)
      go_simp
      (try with_reducible rfl)
    try simp only [Act.put, List.setIfInBounds_toArray, List.set_cons_zero, List.set_cons_succ]
    refine hd_take (i := 7) (some 16) (v := ?v7) rfl rfl (by kernel_rfl) (by kernel_rfl) (by kernel_rfl) (fun _ _ _ h => h) (by rfl) ?h7 (by assumption) ?r7
    case h7 =>
      intro w hSw
      (try dsimp only at hSw)
      go_simp
      (try with_reducible rfl)
    try simp only [Act.put, List.setIfInBounds_toArray, List.set_cons_zero, List.set_cons_succ]
    refine wpAnyH_ready (rs := [2, 9]) (by kernel_rfl) (by simp) ?_
    refine AllReadyH.cons rfl (fun K hK => ?_) (AllReadyH.cons rfl (fun K hK => ?_) AllReadyH.nil)
    · go_simp
      refine hK.out _ _ (by refine ⟨?_, ?_, ?_⟩ <;> go_simp) (fun hH2 => ?_)
      clear hK K
      refine wpAnyH_ready (rs := [5, 9]) (by kernel_rfl) (by simp) ?_
      refine AllReadyH.cons rfl (fun K hK => ?_) (AllReadyH.cons rfl (fun K hK => ?_) AllReadyH.nil)
      · refine step_append_made _ (by rfl) _ _ _ (by rfl) (w.heap.size + 2) 21 i0 _ 1 4 Tryd.underlying23 hi hz0 hz1 hz2 rfl (by omega) ⟨w.heap.size + 2, 0, none⟩ 0 0 [] (by rfl) (by first | exact ownsRow_empty _ _ (by simp) (by omega) | exact ownsRow_empty2 _ _ _ (by simp) (by omega)) ⟨mb, mo, none⟩ xs.length cap (xs.map (Value.int .i32)) (by rfl) hlen (Hn.out.news' (by repeat (first | exact Below.refl _ _ | exact Nat.le_refl _ | apply Below.drew | (refine Below.alloc ?_ (by simp <;> omega) _)))) (one_i32 xs) hml hby (by simp <;> omega) ?_
        intro g cap' w1 hown hgrow
        refine hK.out _ _ (by refine ⟨?_, ?_, ?_⟩ <;> (rw [hgrow.cell_far _ (by simp <;> omega) (by simp <;> omega)]; go_simp)) (fun hH5 => ?_)
        clear hK K
        try simp only [Act.put, List.setIfInBounds_toArray, List.set_cons_zero, List.set_cons_succ]
        rw [Nat.zero_add, List.nil_append] at hown
        rw [Nat.zero_add]
        have hs1 := hgrow.size
        simp at hs1
        refine hd_take (i := 8) (some 17) (v := ?v8x1) rfl rfl (by kernel_rfl) (by kernel_rfl) (by kernel_rfl) (fun _ _ _ h => h) (by rfl) ?h8x1 (by assumption) ?r8x1
        case h8x1 =>
          intro w hSw
          (try dsimp only at hSw)
          go_simp
          (try with_reducible rfl)
        try simp only [Act.put, List.setIfInBounds_toArray, List.set_cons_zero, List.set_cons_succ]
        refine wpAnyH_ready (rs := [9]) (by kernel_rfl) (by simp) ?_
        refine AllReadyH.cons rfl (fun K hK => ?_) AllReadyH.nil
        go_simp
        refine hK.out _ _ (by refine ⟨?_, ?_, ?_⟩ <;> (rw [World.cell?_alloc_past _ _ _ (by omega)]; first | exact hH5.1 | exact hH5.2.1 | exact hH5.2.2)) (fun hH9 => ?_)
        clear hK K
        refine wpAnyH_ready (rs := [10]) (by kernel_rfl) (by simp) ?_
        refine AllReadyH.cons rfl (fun K hK => ?_) AllReadyH.nil
        go_simp
        refine hK.out _ _ (by refine ⟨?_, ?_, ?_⟩ <;> (rw [World.cell?_alloc_past _ _ _ (by omega)]; first | exact hH5.1 | exact hH5.2.1 | exact hH5.2.2)) (fun hH10 => ?_)
        clear hK K
        refine wpAnyH_done (by kernel_rfl) ?_ _
        go_wp2_with fail
        go_meet
        case rel => exact ⟨_, g, cap', rfl, head_new w _ w1 g cap' pc (.slice (some ⟨mb, mo, none⟩) xs.length cap) xs 0 hown hgrow (by repeat (first | exact Below.refl _ _ | exact Nat.le_refl _ | apply Below.drew | (refine Below.alloc ?_ (by simp <;> omega) _))) (by simp <;> omega) (by simp <;> omega) (fun i => by go_simp) (fun i => by go_simp) (fun i => by go_simp)⟩
      · go_simp
        refine hK.out _ _ (by refine ⟨?_, ?_, ?_⟩ <;> go_simp) (fun hH9 => ?_)
        clear hK K
        refine wpAnyH_ready (rs := [5]) (by kernel_rfl) (by simp) ?_
        refine AllReadyH.cons rfl (fun K hK => ?_) AllReadyH.nil
        refine step_append_made _ (by rfl) _ _ _ (by rfl) (w.heap.size + 2) 21 i0 _ 1 4 Tryd.underlying23 hi hz0 hz1 hz2 rfl (by omega) ⟨w.heap.size + 2, 0, none⟩ 0 0 [] (by rfl) (by first | exact ownsRow_empty _ _ (by simp) (by omega) | exact ownsRow_empty2 _ _ _ (by simp) (by omega)) ⟨mb, mo, none⟩ xs.length cap (xs.map (Value.int .i32)) (by rfl) hlen (Hn.out.news' (by repeat (first | exact Below.refl _ _ | exact Nat.le_refl _ | apply Below.drew | (refine Below.alloc ?_ (by simp <;> omega) _)))) (one_i32 xs) hml hby (by simp <;> omega) ?_
        intro g cap' w1 hown hgrow
        refine hK.out _ _ (by refine ⟨?_, ?_, ?_⟩ <;> (rw [hgrow.cell_far _ (by simp <;> omega) (by simp <;> omega)]; go_simp)) (fun hH5 => ?_)
        clear hK K
        try simp only [Act.put, List.setIfInBounds_toArray, List.set_cons_zero, List.set_cons_succ]
        rw [Nat.zero_add, List.nil_append] at hown
        rw [Nat.zero_add]
        have hs1 := hgrow.size
        simp at hs1
        have o0 : ∀ i, w1.cell? ⟨w.heap.size + 3, i, none⟩ = #[Value.int .i64 0, .slice none 0 0, .int .i64 0][i]? := fun i => (hgrow.cell_far _ (by simp <;> omega) (by simp <;> omega)).trans (by go_simp)
        have of : ∀ i, w1.frozen? ⟨w.heap.size + 3, i, none⟩ = false := fun i => (hgrow.frozen_far _ (by simp <;> omega) (by simp <;> omega)).trans (by go_simp)
        refine hd_take (i := 8) (some 17) (v := ?v8x2) rfl rfl (by kernel_rfl) (by kernel_rfl) (by kernel_rfl) (fun _ _ _ h => h) (by rfl) ?h8x2 (by assumption) ?r8x2
        case h8x2 =>
          intro w hSw
          (try dsimp only at hSw)
          go_simp
          (try with_reducible rfl)
        try simp only [Act.put, List.setIfInBounds_toArray, List.set_cons_zero, List.set_cons_succ]
        refine wpAnyH_ready (rs := [10]) (by kernel_rfl) (by simp) ?_
        refine AllReadyH.cons rfl (fun K hK => ?_) AllReadyH.nil
        go_simp
        refine hK.out _ _ (by refine ⟨?_, ?_, ?_⟩ <;> (rw [World.cell?_setCell_far _ _ _ _ (by simp <;> omega), World.cell?_setCell_far _ _ _ _ (by simp <;> omega), World.cell?_setCell_far _ _ _ _ (by simp <;> omega)]; first | exact hH5.1 | exact hH5.2.1 | exact hH5.2.2)) (fun hH10 => ?_)
        clear hK K
        refine wpAnyH_done (by kernel_rfl) ?_ _
        go_wp2_with fail
        go_meet
        case rel => exact ⟨_, g, cap', rfl, head_old w _ w1 _ _ g cap' pc (.slice (some ⟨mb, mo, none⟩) xs.length cap) xs 0 hown hgrow (by repeat (first | exact Below.refl _ _ | exact Nat.le_refl _ | apply Below.drew | (refine Below.alloc ?_ (by simp <;> omega) _))) (by simp <;> omega) (by simp <;> omega) (by simp <;> omega) (by simp <;> omega) (by simp <;> omega) (fun i => by go_simp) (fun i => by go_simp) (fun i => by go_simp) (by first | exact heap_at1 _ _ _ (by simp) | exact heap_at2 _ _ _ _ (by simp))⟩
    · go_simp
      refine hK.out _ _ (by refine ⟨?_, ?_, ?_⟩ <;> go_simp) (fun hH9 => ?_)
      clear hK K
      refine wpAnyH_ready (rs := [2]) (by kernel_rfl) (by simp) ?_
      refine AllReadyH.cons rfl (fun K hK => ?_) AllReadyH.nil
      go_simp
      refine hK.out _ _ (by refine ⟨?_, ?_, ?_⟩ <;> go_simp) (fun hH2 => ?_)
      clear hK K
      refine wpAnyH_ready (rs := [5]) (by kernel_rfl) (by simp) ?_
      refine AllReadyH.cons rfl (fun K hK => ?_) AllReadyH.nil
      refine step_append_made _ (by rfl) _ _ _ (by rfl) (w.heap.size + 2) 21 i0 _ 1 4 Tryd.underlying23 hi hz0 hz1 hz2 rfl (by omega) ⟨w.heap.size + 3, 0, none⟩ 0 0 [] (by rfl) (by first | exact ownsRow_empty _ _ (by simp) (by omega) | exact ownsRow_empty2 _ _ _ (by simp) (by omega)) ⟨mb, mo, none⟩ xs.length cap (xs.map (Value.int .i32)) (by rfl) hlen (Hn.out.news' (by repeat (first | exact Below.refl _ _ | exact Nat.le_refl _ | apply Below.drew | (refine Below.alloc ?_ (by simp <;> omega) _)))) (one_i32 xs) hml hby (by simp <;> omega) ?_
      intro g cap' w1 hown hgrow
      refine hK.out _ _ (by refine ⟨?_, ?_, ?_⟩ <;> (rw [hgrow.cell_far _ (by simp <;> omega) (by simp <;> omega)]; go_simp)) (fun hH5 => ?_)
      clear hK K
      try simp only [Act.put, List.setIfInBounds_toArray, List.set_cons_zero, List.set_cons_succ]
      rw [Nat.zero_add, List.nil_append] at hown
      rw [Nat.zero_add]
      have hs1 := hgrow.size
      simp at hs1
      have o0 : ∀ i, w1.cell? ⟨w.heap.size + 2, i, none⟩ = #[Value.int .i64 0, .slice none 0 0, .int .i64 0][i]? := fun i => (hgrow.cell_far _ (by simp <;> omega) (by simp <;> omega)).trans (by go_simp)
      have of : ∀ i, w1.frozen? ⟨w.heap.size + 2, i, none⟩ = false := fun i => (hgrow.frozen_far _ (by simp <;> omega) (by simp <;> omega)).trans (by go_simp)
      refine hd_take (i := 8) (some 17) (v := ?v8x3) rfl rfl (by kernel_rfl) (by kernel_rfl) (by kernel_rfl) (fun _ _ _ h => h) (by rfl) ?h8x3 (by assumption) ?r8x3
      case h8x3 =>
        intro w hSw
        (try dsimp only at hSw)
        go_simp
        (try with_reducible rfl)
      try simp only [Act.put, List.setIfInBounds_toArray, List.set_cons_zero, List.set_cons_succ]
      refine wpAnyH_ready (rs := [10]) (by kernel_rfl) (by simp) ?_
      refine AllReadyH.cons rfl (fun K hK => ?_) AllReadyH.nil
      go_simp
      refine hK.out _ _ (by refine ⟨?_, ?_, ?_⟩ <;> (rw [World.cell?_setCell_far _ _ _ _ (by simp <;> omega), World.cell?_setCell_far _ _ _ _ (by simp <;> omega), World.cell?_setCell_far _ _ _ _ (by simp <;> omega)]; first | exact hH5.1 | exact hH5.2.1 | exact hH5.2.2)) (fun hH10 => ?_)
      clear hK K
      refine wpAnyH_done (by kernel_rfl) ?_ _
      go_wp2_with fail
      go_meet
      case rel => exact ⟨_, g, cap', rfl, head_old w _ w1 _ _ g cap' pc (.slice (some ⟨mb, mo, none⟩) xs.length cap) xs 0 hown hgrow (by repeat (first | exact Below.refl _ _ | exact Nat.le_refl _ | apply Below.drew | (refine Below.alloc ?_ (by simp <;> omega) _))) (by simp <;> omega) (by simp <;> omega) (by simp <;> omega) (by simp <;> omega) (by simp <;> omega) (fun i => by go_simp) (fun i => by go_simp) (fun i => by go_simp) (by first | exact heap_at1 _ _ _ (by simp) | exact heap_at2 _ _ _ _ (by simp))⟩
  case rest =>
    obtain ⟨pb, g, cap', rfl, hH⟩ := hcut
    have HH := Lib.hid hH
    have bx := hH.box
    clear hH
    go_wp2_with fail
    refine (rright_any pc 0 _ _ _ _).mono ?_
    rintro e w1 ⟨rfl, hb1⟩
    have hs0 := HH.out.below.size
    have hpb := HH.out.lpb
    have hlp := HH.out.lp
    have bx1 : ∀ i, w1.cell? ⟨w.heap.size, i, none⟩ = #[Value.int .i64 pc, .slice (some ⟨mb, mo, none⟩) xs.length cap, .int .i64 0][i]? := fun i => (hb1.cell (p := ⟨w.heap.size, i, none⟩) (by show w.heap.size < _; omega)).trans (bx i)
    have HB1 := Lib.hid hb1
    clear bx hb1
    rw [Hr.out]
    go_wp2_with fail
    refine (rnext_yes pc _ _ _ l cv _ _ Hr.out ((Hc.out.below HH.out.below (Nat.le_refl _)).below HB1.out (Nat.le_refl _)) hll Hi.out).mono ?_
    rintro e w2 ⟨rfl, hb2⟩
    have hs1 := HB1.out.size
    have hs2 := hb2.size
    have HM2 : Hid (MSt w2 pb g cap' pc xs 0) := Lib.hid ((HH.out.st.below hx0 HB1.out).below hx0 hb2)
    have HB2 : Hid (Below w.heap.size w w2) := Lib.hid ((HH.out.below.trans (HB1.out.mono (by omega))).trans (hb2.mono (by omega)))
    have bx2 : ∀ i, w2.cell? ⟨w.heap.size, i, none⟩ = #[Value.int .i64 pc, .slice (some ⟨mb, mo, none⟩) xs.length cap, .int .i64 0][i]? := fun i => (hb2.cell (p := ⟨w.heap.size, i, none⟩) (by show w.heap.size < _; omega)).trans (bx1 i)
    have rs2 : ∀ i, w2.cell? ⟨w.heap.size + 1, i, none⟩ = #[Value.int .i64 0, .slice none 0 0, .int .i64 0][i]? := fun i => (hb2.cell (p := ⟨w.heap.size + 1, i, none⟩) (by show w.heap.size + 1 < _; omega)).trans ((HB1.out.cell (p := ⟨w.heap.size + 1, i, none⟩) (by show w.heap.size + 1 < _; omega)).trans (HH.out.res i))
    have fr2 : ∀ i, w2.frozen? ⟨w.heap.size + 1, i, none⟩ = false := fun i => (hb2.frozen (p := ⟨w.heap.size + 1, i, none⟩) (by show w.heap.size + 1 < _; omega)).trans ((HB1.out.frozen (p := ⟨w.heap.size + 1, i, none⟩) (by show w.heap.size + 1 < _; omega)).trans (HH.out.fres i))
    have mem2 : Hid (∀ k x, xs[k]? = some x → w2.cell? ⟨mb, mo + k, none⟩ = some (.int .i32 x)) := Lib.hid fun k x hx => (HB2.out.cell (p := ⟨mb, mo + k, none⟩) lm).trans (Hk.out k x hx)
    have lr2 : w.heap.size + 1 < w2.heap.size := by omega
    have lb2 : w.heap.size < w2.heap.size := by omega
    have lp2 : pb < w2.heap.size := by omega
    have lg2 : g < w2.heap.size := by have := HH.out.lgb; omega
    have lm2 : mb < w2.heap.size := by omega
    have hlw := lm
    have hpg := HH.out.st.ne
    have hlg := HH.out.lg
    have hlp' := HH.out.lp
    have q0 := HM2.out.st.c0
    have q1 := HM2.out.st.c1
    have q2 := HM2.out.st.c2
    have zp := HM2.out.fp
    have zg := HM2.out.fm
    clear bx1 hb2 hs0 hs1 hs2 hpb hlp
    go_upto_region 12 with (fail)
    obtain ⟨W, hW⟩ : ∃ W, W = (w2.setCell ⟨pb, 0, none⟩ (.int .i64 ((pc : Int) + 1))).alloc (.cells #[.int .i64 21, .int .i64 a, .int .i64 b, .int .i64 c] 58) := ⟨_, rfl⟩
    rw [← hW]
    obtain ⟨HM, HB, bxW, rsW, frW, memW, inW, szW⟩ := rdy HM2.out HB2.out hx0 bx2 rs2 fr2 mem2.out lm HH.out.lp lp2 lg2 hW
    replace HM := Lib.hid HM
    replace HB := Lib.hid HB
    replace memW := Lib.hid memW
    clear hW bx2 rs2 fr2 mem2 HM2 HB2 q0 q1 q2 zp zg
    have q0 := HM.out.st.c0
    have q1 := HM.out.st.c1
    have q2 := HM.out.st.c2
    have zp := HM.out.fp
    have zg := HM.out.fm
    generalize w2.heap.size = ib at *
    have lgW : g < W.heap.size := by omega
    have hbp : ¬ w.heap.size = pb := by omega
    have hbg : ¬ w.heap.size = g := by omega
    have hrp : ¬ w.heap.size + 1 = pb := by omega
    have hrg : ¬ w.heap.size + 1 = g := by omega
    have hig : ¬ ib = g := by omega
    have hip : ¬ ib = pb := by omega
    have hmp : ¬ mb = pb := by omega
    have hmg : ¬ mb = g := by omega
    have rdb := memW.out b _ (gx_at (show b < xs.length by omega))
    have lb : (b : Int) < (xs.length : Int) := by omega
    go_wp2
    refine bodyPost_ret (v := .agg #[.int .i64 (a), .slice (some ⟨g, 0, none⟩) xs.length cap', .int .i64 (0)]) (by simp [results, Tryd.results17, go_sem, *]) rfl ?_
    exact fin (HM.out.setPc _) (HB.out.setCell (by show w.heap.size ≤ pb; omega) _) HH.out.lk hx0 rfl hlg
end Go.Proofs.YteecpkkgjioplaaDoor

/- baizeref15.Step: what it does is what the plain step says. -/
namespace Go.Proofs.YteecpkkgjioplaaDoor
open Go.RowKit Go

set_option maxRecDepth 100000 in
set_option maxHeartbeats 1000000 in
theorem rstep_right (pc : Nat) (ad : Addr) (cap : Nat) (xs : List Int) (cv : Value) (l : List Ins) (w : World) (h : I32s w (.slice (some ad) xs.length cap) xs) (hl : xs.length ≤ 300) (hr : rightSt pc xs.length 0 = true) (hc : InsS w cv l) (hll : l.length ≤ 300) (hW : W32 xs) :
    Calls Tryd.prog 17 #[cv, .agg #[.int .i64 pc, .slice (some ad) xs.length cap, .int .i64 0]] w fun e w' => StPost w (stepP l pc xs) e w' := by
  unfold stepP
  split
  · rename_i hi
    exact rstep_none pc ad cap xs cv l w h hl hr hc hll hi
  · rename_i i hi
    obtain ⟨o, a, b, c⟩ := i
    obtain ⟨hrr, hpc⟩ := nextP_right hi
    obtain ⟨ho0, ho1⟩ := right_o hrr
    simp only at ho0 ho1 hrr
    have hcase : o = 0 ∨ o = 1 ∨ o = 2 ∨ o = 3 ∨ o = 4 ∨ o = 5 ∨ o = 6 ∨ o = 7 ∨ o = 8 ∨ o = 9 ∨ o = 10 ∨ o = 11 ∨ o = 12 ∨ o = 13 ∨ o = 14 ∨ o = 15 ∨ o = 16 ∨ o = 17 ∨ o = 18 ∨ o = 19 ∨ o = 20 ∨ o = 21 := by omega
    rcases hcase with rfl | rfl | rfl | rfl | rfl | rfl | rfl | rfl | rfl | rfl | rfl | rfl | rfl | rfl | rfl | rfl | rfl | rfl | rfl | rfl | rfl | rfl
    · simpa [actP, pcP, memP] using rstep_0 pc ad cap xs cv l a b c w h hl hr hc hll hW hi
    · simpa [actP, pcP, memP] using rstep_1 pc ad cap xs cv l a b c w h hl hr hc hll hW hi
    · simpa [actP, pcP, memP] using rstep_2 pc ad cap xs cv l a b c w h hl hr hc hll hW hi
    · simpa [actP, pcP, memP] using rstep_3 pc ad cap xs cv l a b c w h hl hr hc hll hW hi
    · simpa [actP, pcP, memP] using rstep_4 pc ad cap xs cv l a b c w h hl hr hc hll hW hi
    · simpa [actP, pcP, memP] using rstep_5 pc ad cap xs cv l a b c w h hl hr hc hll hW hi
    · simpa [actP, pcP, memP] using rstep_6 pc ad cap xs cv l a b c w h hl hr hc hll hW hi
    · simpa [actP, pcP, memP] using rstep_7 pc ad cap xs cv l a b c w h hl hr hc hll hW hi
    · simpa [actP, pcP, memP] using rstep_8 pc ad cap xs cv l a b c w h hl hr hc hll hW hi
    · simpa [actP, pcP, memP] using rstep_9 pc ad cap xs cv l a b c w h hl hr hc hll hW hi
    · simpa [actP, pcP, memP] using rstep_10 pc ad cap xs cv l a b c w h hl hr hc hll hW hi
    · simpa [actP, pcP, memP] using rstep_11 pc ad cap xs cv l a b c w h hl hr hc hll hW hi
    · simpa [actP, pcP, memP] using rstep_12 pc ad cap xs cv l a b c w h hl hr hc hll hW hi
    · simpa [actP, pcP, memP] using rstep_13 pc ad cap xs cv l a b c w h hl hr hc hll hW hi
    · simpa [actP, pcP, memP] using rstep_14 pc ad cap xs cv l a b c w h hl hr hc hll hW hi
    · rcases farC_cases xs.length (b + gx xs c) with hf | ⟨f, hf, hlt⟩
      · simpa [actP, pcP, memP, farI, hf] using rstep_15n pc ad cap xs cv l a b c w h hl hr hc hll hW hi (by simp [farI, hf])
      · have : ¬ (f : Int) < 0 := by omega
        simpa [actP, pcP, memP, farI, hf, this] using rstep_15 pc ad cap xs cv l a b c w h hl hr hc hll hW hi f (by simp [farI, hf]) hlt
    · rcases farC_cases xs.length (a + gx xs b) with hf | ⟨f, hf, hlt⟩
      · simpa [actP, pcP, memP, farI, hf] using rstep_16n pc ad cap xs cv l a b c w h hl hr hc hll hW hi (by simp [farI, hf])
      · have : ¬ (f : Int) < 0 := by omega
        simpa [actP, pcP, memP, farI, hf, this] using rstep_16 pc ad cap xs cv l a b c w h hl hr hc hll hW hi f (by simp [farI, hf]) hlt
    · simpa [actP, pcP, memP] using rstep_17 pc ad cap xs cv l a b c w h hl hr hc hll hW hi
    · by_cases hg : gx xs b < 0
      · simpa [actP, pcP, memP] using rstep_18n pc ad cap xs cv l a b c w h hl hr hc hll hW hi _ rfl hg
      · simpa [actP, pcP, memP] using rstep_18y pc ad cap xs cv l a b c w h hl hr hc hll hW hi _ rfl (by omega)
    · simpa [actP, pcP, memP] using rstep_19 pc ad cap xs cv l a b c w h hl hr hc hll hW hi
    · by_cases hz : gx xs b = 0
      · simpa [actP, pcP, memP, hz] using rstep_20z pc ad cap xs cv l a b c w h hl hr hc hll hW hi hz
      · simpa [actP, pcP, memP, hz] using rstep_20n pc ad cap xs cv l a b c w h hl hr hc hll hW hi hz
    · by_cases hz : gx xs b = 0
      · simpa [actP, pcP, memP, hz] using rstep_21z pc ad cap xs cv l a b c w h hl hr hc hll hW hi hz
      · simpa [actP, pcP, memP, hz] using rstep_21n pc ad cap xs cv l a b c w h hl hr hc hll hW hi hz
end Go.Proofs.YteecpkkgjioplaaDoor

/- Abstract values and heaps for runs: tries, values with named blocks, what they stand for. -/
namespace Go.Proofs.YteecpkkgjioplaaDoor
open Go

/-- A trie keyed by numbers. -/
inductive Tr (α : Type) where
  | nil
  | node (l : Tr α) (x : Option α) (r : Tr α)

def Tr.get {α : Type} : Tr α → Nat → Option α
  | .nil, _ => none
  | .node l x r, n =>
    match n with
    | 0 => x
    | m + 1 => bif Nat.beq (m % 2) 0 then l.get (m / 2) else r.get (m / 2)

def Tr.setF {α : Type} : Nat → Tr α → Nat → Option α → Tr α
  | 0, t, _, _ => t
  | f + 1, t, n, v =>
    match t, n with
    | .nil, 0 => .node .nil v .nil
    | .node l _ r, 0 => .node l v r
    | .nil, m + 1 => bif Nat.beq (m % 2) 0 then .node (Tr.setF f .nil (m / 2) v) none .nil else .node .nil none (Tr.setF f .nil (m / 2) v)
    | .node l x r, m + 1 => bif Nat.beq (m % 2) 0 then .node (Tr.setF f l (m / 2) v) x r else .node l x (Tr.setF f r (m / 2) v)

def Tr.set {α : Type} (t : Tr α) (n : Nat) (v : Option α) : Tr α := Tr.setF (n + 1) t n v

theorem Tr.get_setF {α : Type} (v : Option α) : ∀ (f : Nat) (t : Tr α) (n m : Nat), n < f → (Tr.setF f t n v).get m = if m = n then v else t.get m := by
  intro f
  induction f with
  | zero => intro t n m h; omega
  | succ f ih =>
    intro t n m h
    have half : ∀ a b : Nat, a / 2 = b / 2 → a % 2 = b % 2 → a = b := fun a b h1 h2 => by omega
    cases n with
    | zero =>
      cases t with
      | nil => cases m <;> simp [Tr.setF, Tr.get]
      | node l x r => cases m <;> simp [Tr.setF, Tr.get]
    | succ n =>
      have hn : n / 2 < f := by omega
      cases t with
      | nil =>
        cases m with
        | zero => simp only [Tr.setF]; cases Nat.beq (n % 2) 0 <;> simp [Tr.get]
        | succ m =>
          simp only [Tr.setF]
          cases hb : Nat.beq (n % 2) 0 <;> cases hc : Nat.beq (m % 2) 0 <;> simp only [cond_true, cond_false, Tr.get, hc, ih _ _ _ hn]
          · have h1 := Nat.ne_of_beq_eq_false hb
            have h2 := Nat.ne_of_beq_eq_false hc
            by_cases e : m / 2 = n / 2
            · have : m = n := half _ _ e (by omega)
              simp [this]
            · have : m ≠ n := fun hh => e (by rw [hh])
              simp [e, this]
          · have h1 := Nat.ne_of_beq_eq_false hb
            have h2 := Nat.eq_of_beq_eq_true hc
            have : m ≠ n := fun hh => h1 (by rw [← hh]; exact h2)
            simp [this]
          · have h1 := Nat.eq_of_beq_eq_true hb
            have h2 := Nat.ne_of_beq_eq_false hc
            have : m ≠ n := fun hh => h2 (by rw [hh]; exact h1)
            simp [this]
          · have h1 := Nat.eq_of_beq_eq_true hb
            have h2 := Nat.eq_of_beq_eq_true hc
            by_cases e : m / 2 = n / 2
            · have : m = n := half _ _ e (by omega)
              simp [this]
            · have : m ≠ n := fun hh => e (by rw [hh])
              simp [e, this]
      | node l x r =>
        cases m with
        | zero => simp only [Tr.setF]; cases Nat.beq (n % 2) 0 <;> simp [Tr.get]
        | succ m =>
          simp only [Tr.setF]
          cases hb : Nat.beq (n % 2) 0 <;> cases hc : Nat.beq (m % 2) 0 <;> simp only [cond_true, cond_false, Tr.get, hc, ih _ _ _ hn]
          · have h1 := Nat.ne_of_beq_eq_false hb
            have h2 := Nat.ne_of_beq_eq_false hc
            by_cases e : m / 2 = n / 2
            · have : m = n := half _ _ e (by omega)
              simp [this]
            · have : m ≠ n := fun hh => e (by rw [hh])
              simp [e, this]
          · have h1 := Nat.ne_of_beq_eq_false hb
            have h2 := Nat.eq_of_beq_eq_true hc
            have : m ≠ n := fun hh => h1 (by rw [← hh]; exact h2)
            simp [this]
          · have h1 := Nat.eq_of_beq_eq_true hb
            have h2 := Nat.ne_of_beq_eq_false hc
            have : m ≠ n := fun hh => h2 (by rw [hh]; exact h1)
            simp [this]
          · have h1 := Nat.eq_of_beq_eq_true hb
            have h2 := Nat.eq_of_beq_eq_true hc
            by_cases e : m / 2 = n / 2
            · have : m = n := half _ _ e (by omega)
              simp [this]
            · have : m ≠ n := fun hh => e (by rw [hh])
              simp [e, this]

theorem Tr.get_set {α : Type} (t : Tr α) (n m : Nat) (v : Option α) : (t.set n v).get m = if m = n then v else t.get m := Tr.get_setF v _ t n m (by omega)

/-- A value whose blocks have names. -/
inductive SV where
  | bool (b : Bool)
  | int (k : IntKind) (n : Int)
  | str (l : List Nat)
  | ptr (n off : Nat)
  | nilp
  | slc (n esz off len : Nat) (cap : Option Nat)
  | slz (n esz off k : Nat)
  | nils
  | mp (n : Nat)
  | nilm
  | fn (f : Fn) (first cap : List SV)
  | nilf
  | ifc (t : TypeId) (v : SV)
  | nili
  | agg (l : List SV)
  | tup (l : List SV)
  | raw (v : Value)

/-- Where a name's object lies: its block, and how many cells that has. -/
structure Place where
  b : Nat
  sz : Nat
abbrev Env := Nat → Option Place
def Place.addr (p : Place) (k : Nat) : Addr := ⟨p.b, k, none⟩
def bytesOf (l : List Nat) : ByteArray := ⟨(l.map UInt8.ofNat).toArray⟩

mutual
def SV.val (ρ : Env) : SV → Option Value
  | .bool b => some (.bool b)
  | .int k n => some (.int k n)
  | .str l => some (.string (bytesOf l))
  | .ptr n off => (ρ n).map fun p => .pointer (some (p.addr off))
  | .nilp => some (.pointer none)
  | .slc n esz off len cap => (ρ n).map fun p => .slice (some (p.addr off)) len (cap.getD ((p.sz - off) / esz))
  | .slz n esz off k => (ρ n).map fun p => .slice (some (p.addr (if (p.sz - off) / esz = k then off else off + k * esz))) 0 ((p.sz - off) / esz - k)
  | .nils => some (.slice none 0 0)
  | .mp n => (ρ n).map fun p => .map (some p.b)
  | .nilm => some (.map none)
  | .fn f first cap => match SV.vals ρ first, SV.vals ρ cap with
    | some a, some b => some (.func f a.toArray b.toArray)
    | _, _ => none
  | .nilf => some .nilFunc
  | .ifc t v => (SV.val ρ v).map (.iface t)
  | .nili => some .nilIface
  | .agg l => (SV.vals ρ l).map fun vs => .agg vs.toArray
  | .tup l => (SV.vals ρ l).map fun vs => .tuple vs.toArray
  | .raw v => some v
def SV.vals (ρ : Env) : List SV → Option (List Value)
  | [] => some []
  | x :: l => match SV.val ρ x, SV.vals ρ l with
    | some v, some vs => some (v :: vs)
    | _, _ => none
end

/-- More names known. -/
def Env.le (ρ ρ' : Env) : Prop := ∀ n p, ρ n = some p → ρ' n = some p
theorem Env.le.refl (ρ : Env) : Env.le ρ ρ := fun _ _ h => h
theorem Env.le.trans {a b c : Env} (h : Env.le a b) (h' : Env.le b c) : Env.le a c := fun n p e => h' n p (h n p e)

mutual
theorem SV.val_le {ρ ρ' : Env} (h : Env.le ρ ρ') : ∀ (x : SV) (v : Value), x.val ρ = some v → x.val ρ' = some v
  | .bool b, v, e => by simpa [SV.val] using e
  | .int k n, v, e => by simpa [SV.val] using e
  | .str l, v, e => by simpa [SV.val] using e
  | .ptr n off, v, e => by
    simp only [SV.val, Option.map_eq_some_iff] at e ⊢
    obtain ⟨p, hp, rfl⟩ := e
    exact ⟨p, h _ _ hp, rfl⟩
  | .nilp, v, e => by simpa [SV.val] using e
  | .slc n esz off len cap, v, e => by
    simp only [SV.val, Option.map_eq_some_iff] at e ⊢
    obtain ⟨p, hp, rfl⟩ := e
    exact ⟨p, h _ _ hp, rfl⟩
  | .slz n esz off k, v, e => by
    simp only [SV.val, Option.map_eq_some_iff] at e ⊢
    obtain ⟨p, hp, rfl⟩ := e
    exact ⟨p, h _ _ hp, rfl⟩
  | .nils, v, e => by simpa [SV.val] using e
  | .mp n, v, e => by
    simp only [SV.val, Option.map_eq_some_iff] at e ⊢
    obtain ⟨p, hp, rfl⟩ := e
    exact ⟨p, h _ _ hp, rfl⟩
  | .nilm, v, e => by simpa [SV.val] using e
  | .fn f first cap, v, e => by
    simp only [SV.val] at e ⊢
    cases ha : SV.vals ρ first with
    | none => simp [ha] at e
    | some a =>
      cases hb : SV.vals ρ cap with
      | none => simp [ha, hb] at e
      | some b =>
        rw [SV.vals_le h first a ha, SV.vals_le h cap b hb]
        simpa [ha, hb] using e
  | .nilf, v, e => by simpa [SV.val] using e
  | .ifc t x, v, e => by
    simp only [SV.val, Option.map_eq_some_iff] at e ⊢
    obtain ⟨p, hp, rfl⟩ := e
    exact ⟨p, SV.val_le h x p hp, rfl⟩
  | .nili, v, e => by simpa [SV.val] using e
  | .agg l, v, e => by
    simp only [SV.val, Option.map_eq_some_iff] at e ⊢
    obtain ⟨p, hp, rfl⟩ := e
    exact ⟨p, SV.vals_le h l p hp, rfl⟩
  | .tup l, v, e => by
    simp only [SV.val, Option.map_eq_some_iff] at e ⊢
    obtain ⟨p, hp, rfl⟩ := e
    exact ⟨p, SV.vals_le h l p hp, rfl⟩
  | .raw v, _, e => by simpa [SV.val] using e
theorem SV.vals_le {ρ ρ' : Env} (h : Env.le ρ ρ') : ∀ (l : List SV) (vs : List Value), SV.vals ρ l = some vs → SV.vals ρ' l = some vs
  | [], vs, e => by simpa [SV.vals] using e
  | x :: l, vs, e => by
    simp only [SV.vals] at e ⊢
    cases ha : SV.val ρ x with
    | none => simp [ha] at e
    | some a =>
      cases hb : SV.vals ρ l with
      | none => simp [ha, hb] at e
      | some b =>
        rw [SV.val_le h x a ha, SV.vals_le h l b hb]
        simpa [ha, hb] using e
end

theorem SV.vals_cons {ρ : Env} {x : SV} {l : List SV} {vs : List Value} (h : SV.vals ρ (x :: l) = some vs) : ∃ v r, x.val ρ = some v ∧ SV.vals ρ l = some r ∧ vs = v :: r := by
  simp only [SV.vals] at h
  cases ha : SV.val ρ x with
  | none => simp [ha] at h
  | some a =>
    cases hb : SV.vals ρ l with
    | none => simp [ha, hb] at h
    | some b =>
      simp [ha, hb] at h
      exact ⟨a, b, rfl, rfl, h.symm⟩
theorem SV.vals_mk {ρ : Env} {x : SV} {l : List SV} {v : Value} {r : List Value} (h : x.val ρ = some v) (h' : SV.vals ρ l = some r) : SV.vals ρ (x :: l) = some (v :: r) := by simp [SV.vals, h, h']
theorem SV.vals_len {ρ : Env} : ∀ {l : List SV} {vs : List Value}, SV.vals ρ l = some vs → vs.length = l.length
  | [], vs, h => by simp [SV.vals] at h; simp [h.symm]
  | x :: l, vs, h => by
    obtain ⟨v, r, _, hr, rfl⟩ := SV.vals_cons h
    simp [SV.vals_len hr]
theorem SV.vals_get {ρ : Env} : ∀ {l : List SV} {vs : List Value} (_ : SV.vals ρ l = some vs) {i : Nat} {x : SV}, l[i]? = some x → ∃ v, vs[i]? = some v ∧ x.val ρ = some v
  | [], vs, h, i, x, hx => by simp at hx
  | y :: l, vs, h, i, x, hx => by
    obtain ⟨v, r, hv, hr, rfl⟩ := SV.vals_cons h
    cases i with
    | zero => simp at hx; subst hx; exact ⟨v, by simp, hv⟩
    | succ i => simp at hx ⊢; exact SV.vals_get hr hx
theorem SV.vals_get' {ρ : Env} {l : List SV} {vs : List Value} (h : SV.vals ρ l = some vs) {i : Nat} {v : Value} (hv : vs[i]? = some v) : ∃ x, l[i]? = some x ∧ x.val ρ = some v := by
  obtain ⟨hi, rfl⟩ := List.getElem?_eq_some_iff.1 hv
  have hi' : i < l.length := by rw [← SV.vals_len h]; exact hi
  obtain ⟨v', hv', hx⟩ := SV.vals_get h (List.getElem?_eq_getElem hi')
  rw [List.getElem?_eq_getElem hi] at hv'
  obtain rfl := Option.some.inj hv'
  exact ⟨l[i], List.getElem?_eq_getElem hi', hx⟩
theorem SV.vals_append {ρ : Env} : ∀ {l m : List SV} {vs us : List Value}, SV.vals ρ l = some vs → SV.vals ρ m = some us → SV.vals ρ (l ++ m) = some (vs ++ us)
  | [], m, vs, us, h, h' => by simp [SV.vals] at h; simp [h.symm, h']
  | x :: l, m, vs, us, h, h' => by
    obtain ⟨v, r, hv, hr, rfl⟩ := SV.vals_cons h
    exact SV.vals_mk hv (SV.vals_append hr h')
theorem SV.vals_take {ρ : Env} : ∀ {l : List SV} {vs : List Value} (k : Nat), SV.vals ρ l = some vs → SV.vals ρ (l.take k) = some (vs.take k)
  | [], vs, k, h => by simp [SV.vals] at h; subst h; simp [SV.vals]
  | x :: l, vs, 0, h => by simp [SV.vals]
  | x :: l, vs, k + 1, h => by
    obtain ⟨v, r, hv, hr, rfl⟩ := SV.vals_cons h
    exact SV.vals_mk hv (SV.vals_take k hr)
theorem SV.vals_drop {ρ : Env} : ∀ {l : List SV} {vs : List Value} (k : Nat), SV.vals ρ l = some vs → SV.vals ρ (l.drop k) = some (vs.drop k)
  | [], vs, k, h => by simp [SV.vals] at h; subst h; simp [SV.vals]
  | x :: l, vs, 0, h => by simpa using h
  | x :: l, vs, k + 1, h => by
    obtain ⟨v, r, hv, hr, rfl⟩ := SV.vals_cons h
    simpa using SV.vals_drop k hr
theorem SV.vals_set {ρ : Env} : ∀ {l : List SV} {vs : List Value} (k : Nat) {x : SV} {u : Value}, SV.vals ρ l = some vs → x.val ρ = some u → SV.vals ρ (l.set k x) = some (vs.set k u)
  | [], vs, k, x, u, h, _ => by simp [SV.vals] at h; subst h; simp [SV.vals]
  | y :: l, vs, 0, x, u, h, hx => by
    obtain ⟨v, r, hv, hr, rfl⟩ := SV.vals_cons h
    exact SV.vals_mk hx hr
  | y :: l, vs, k + 1, x, u, h, hx => by
    obtain ⟨v, r, hv, hr, rfl⟩ := SV.vals_cons h
    exact SV.vals_mk hv (SV.vals_set k hr hx)
theorem SV.vals_replicate {ρ : Env} {x : SV} {v : Value} (h : x.val ρ = some v) : ∀ k, SV.vals ρ (List.replicate k x) = some (List.replicate k v)
  | 0 => rfl
  | k + 1 => SV.vals_mk h (SV.vals_replicate h k)
end Go.Proofs.YteecpkkgjioplaaDoor

/- Abstract heaps: chunks, small programs over them, and that a run hangs on what it touches alone. -/
namespace Go.Proofs.YteecpkkgjioplaaDoor
open Go

inductive Chunk where
  | cells (l : List SV) (shut ro : Bool)
  | map (es : List (Nat × SV × SV)) (clock : Nat)
  | strIt (s : List Nat) (pos : Nat)
  | mapIt (m : Option Nat) (since : Nat) (seen : List Nat) (stepped : Nat)

def Chunk.ro : Chunk → Bool
  | .cells _ _ r => r
  | _ => false

abbrev Hp := Tr Chunk
structure St where
  nm : Nat
  hp : Hp
  rd : Nat
  wr : Nat

/-- A small program over the heap. -/
inductive MM (α : Type) where
  | ret (a : α)
  | fail
  | get (n : Nat) (k : Chunk → MM α)
  | put (n : Nat) (c : Chunk) (k : MM α)
  | del (n : Nat) (k : MM α)
  | new (c : Chunk) (k : Nat → MM α)

def MM.run {α : Type} : MM α → St → Option (α × St)
  | .ret a, s => some (a, s)
  | .fail, _ => none
  | .get n k, s => match s.hp.get n with
    | none => none
    | some c => (k c).run ⟨s.nm, s.hp, s.rd ||| 2 ^ n, s.wr⟩
  | .put n c k, s => match s.hp.get n with
    | none => none
    | some d => bif d.ro || c.ro then none else k.run ⟨s.nm, s.hp.set n (some c), s.rd ||| 2 ^ n, s.wr ||| 2 ^ n⟩
  | .del n k, s => match s.hp.get n with
    | none => none
    | some d => bif d.ro then none else k.run ⟨s.nm, s.hp.set n none, s.rd ||| 2 ^ n, s.wr ||| 2 ^ n⟩
  | .new c k, s => bif c.ro then none else (k s.nm).run ⟨s.nm + 1, s.hp.set s.nm (some c), s.rd, s.wr⟩

/-- No name beyond the next one is in use. -/
def St.wf (s : St) : Prop := ∀ n, s.nm ≤ n → s.hp.get n = none

/-- What a run tells of itself, and that it hangs on what it touches alone. -/
structure Told {α : Type} (g : St → Option (α × St)) (s : St) (a : α) (s' : St) (R W : Nat) : Prop where
  rd : s'.rd = s.rd ||| R
  wr : s'.wr = s.wr ||| W
  nm : s.nm ≤ s'.nm
  sub : ∀ n, W.testBit n = true → R.testBit n = true
  low : ∀ n, R.testBit n = true → n < s'.nm
  keep : ∀ n, W.testBit n = false → ¬ (s.nm ≤ n ∧ n < s'.nm) → s'.hp.get n = s.hp.get n
  ro : ∀ n c, s'.hp.get n = some c → c.ro = true → s.hp.get n = some c
  again : ∀ s2 : St, s2.nm = s.nm → (∀ n, R.testBit n = true → n < s.nm → s2.hp.get n = s.hp.get n) →
    ∃ s2', g s2 = some (a, s2') ∧ s2'.nm = s'.nm ∧ s2'.rd = s2.rd ||| R ∧ s2'.wr = s2.wr ||| W ∧
      (∀ n, W.testBit n = true ∨ (s.nm ≤ n ∧ n < s'.nm) → s2'.hp.get n = s'.hp.get n) ∧
      (∀ n, W.testBit n = false → ¬ (s.nm ≤ n ∧ n < s'.nm) → s2'.hp.get n = s2.hp.get n)
def Loc {α : Type} (g : St → Option (α × St)) : Prop := ∀ s a s', s.wf → g s = some (a, s') → s'.wf ∧ ∃ R W, Told g s a s' R W

theorem Loc.pure {α : Type} (a : α) : Loc (fun s => some (a, s)) := by
  intro s b s' hw h
  simp only [Option.some.injEq, Prod.mk.injEq] at h
  obtain ⟨rfl, rfl⟩ := h
  exact ⟨hw, 0, 0, by simp, by simp, Nat.le_refl _, by simp, by simp, by simp, fun _ _ h _ => h, fun s2 h1 _ => ⟨s2, rfl, h1, by simp, by simp, fun n hn => by simp at hn; omega, fun _ _ _ => rfl⟩⟩
theorem Loc.fail {α : Type} : Loc (fun _ => (none : Option (α × St))) := by intro s a s' _ h; simp at h

theorem Loc.bind {α β : Type} {g : St → Option (α × St)} {h : α → St → Option (β × St)} (hg : Loc g) (hh : ∀ a, Loc (h a)) :
    Loc (fun s => match g s with | none => none | some (a, s1) => h a s1) := by
  intro s b s' hwf e
  cases eg : g s with
  | none => simp [eg] at e
  | some p =>
    obtain ⟨a, s1⟩ := p
    simp only [eg] at e
    obtain ⟨hw1, R1, W1, T⟩ := hg s a s1 hwf eg
    obtain ⟨hw2, R2, W2, U⟩ := hh a s1 b s' hw1 e
    have n1 := T.nm
    have n2 := U.nm
    refine ⟨hw2, R1 ||| R2, W1 ||| W2, by rw [U.rd, T.rd, Nat.or_assoc], by rw [U.wr, T.wr, Nat.or_assoc], Nat.le_trans n1 n2, ?_, ?_, ?_, fun n c h1 h2 => T.ro n c (U.ro n c h1 h2) h2, ?_⟩
    · intro n hn
      simp only [Nat.testBit_or, Bool.or_eq_true] at hn ⊢
      exact hn.imp (T.sub n) (U.sub n)
    · intro n hn
      simp only [Nat.testBit_or, Bool.or_eq_true] at hn
      rcases hn with hn | hn
      · have := T.low n hn; omega
      · exact U.low n hn
    · intro n hn hf
      simp only [Nat.testBit_or, Bool.or_eq_false_iff] at hn
      rw [U.keep n hn.2 (by omega), T.keep n hn.1 (by omega)]
    · intro s2 hnm hag
      obtain ⟨s2', e1, e2, e3, e4, e5, e6⟩ := T.again s2 hnm (fun n hr hf => hag n (by simp [hr]) hf)
      obtain ⟨s3, f1, f2, f3, f4, f5, f6⟩ := U.again s2' e2 (fun n hr hf => by
        by_cases hw : W1.testBit n = true ∨ (s.nm ≤ n ∧ n < s1.nm)
        · exact e5 n hw
        · have hw' : W1.testBit n = false := by simpa using fun hc => hw (Or.inl hc)
          have hf' : ¬ (s.nm ≤ n ∧ n < s1.nm) := fun hc => hw (Or.inr hc)
          rw [e6 n hw' hf', T.keep n hw' hf']
          exact hag n (by simp [hr]) (by omega))
      refine ⟨s3, by simp only [e1, f1], f2, by rw [f3, e3, Nat.or_assoc], by rw [f4, e4, Nat.or_assoc], ?_, ?_⟩
      · intro n hn
        by_cases h2 : W2.testBit n = true ∨ (s1.nm ≤ n ∧ n < s'.nm)
        · exact f5 n h2
        · have h2' : W2.testBit n = false := by simpa using fun hc => h2 (Or.inl hc)
          have h2'' : ¬ (s1.nm ≤ n ∧ n < s'.nm) := fun hc => h2 (Or.inr hc)
          rw [f6 n h2' h2'', U.keep n h2' h2'']
          refine e5 n ?_
          rcases hn with hn | hn
          · simp only [Nat.testBit_or, Bool.or_eq_true, h2', Bool.false_eq_true, or_false] at hn
            exact Or.inl hn
          · exact Or.inr (by omega)
      · intro n hn hf
        simp only [Nat.testBit_or, Bool.or_eq_false_iff] at hn
        rw [f6 n hn.2 (by omega), e6 n hn.1 (by omega)]

theorem Loc.congr {α : Type} {g g' : St → Option (α × St)} (h : Loc g) (e : ∀ s, g' s = g s) : Loc g' := by
  have : g' = g := funext e
  rw [this]; exact h

theorem bit_pow (n m : Nat) : (2 ^ n : Nat).testBit m = decide (n = m) := Nat.testBit_two_pow
theorem MM.loc {α : Type} (m : MM α) : Loc m.run := by
  induction m with
  | ret a => exact (Loc.pure a).congr fun s => rfl
  | fail => exact Loc.fail.congr fun s => rfl
  | get n k ih =>
    intro s a s' hwf e
    simp only [MM.run] at e
    cases hc : s.hp.get n with
    | none => simp [hc] at e
    | some c =>
      simp only [hc] at e
      obtain ⟨hw, R, W, T⟩ := ih c ⟨s.nm, s.hp, s.rd ||| 2 ^ n, s.wr⟩ a s' hwf e
      have hn : n < s.nm := by
        rcases Nat.lt_or_ge n s.nm with h | h
        · exact h
        · rw [hwf n h] at hc; cases hc
      refine ⟨hw, R ||| 2 ^ n, W, by rw [T.rd, Nat.or_assoc, Nat.or_comm R], T.wr, T.nm, fun j hj => by simp [T.sub j hj], fun j hj => ?_, T.keep, T.ro, ?_⟩
      · simp only [Nat.testBit_or, bit_pow, Bool.or_eq_true, decide_eq_true_eq] at hj
        rcases hj with hj | rfl
        · exact T.low j hj
        · have h1 := T.nm; simp only at h1; omega
      · intro s2 hnm hag
        have h2 : s2.hp.get n = some c := by rw [hag n (by simp) hn, hc]
        obtain ⟨s3, e1, e2, e3, e4, e5, e6⟩ := T.again ⟨s2.nm, s2.hp, s2.rd ||| 2 ^ n, s2.wr⟩ hnm (fun j hj hl => hag j (by simp [hj]) hl)
        exact ⟨s3, by simp only [MM.run, h2, e1], e2, by rw [e3, Nat.or_assoc, Nat.or_comm R], e4, e5, e6⟩
  | put n c k ih =>
    intro s a s' hwf e
    simp only [MM.run] at e
    cases hc : s.hp.get n with
    | none => simp [hc] at e
    | some d =>
      simp only [hc] at e
      cases hro : d.ro || c.ro with
      | true => simp [hro] at e
      | false =>
        simp only [hro, cond_false] at e
        have hn : n < s.nm := by
          rcases Nat.lt_or_ge n s.nm with h | h
          · exact h
          · rw [hwf n h] at hc; cases hc
        have hwf1 : St.wf ⟨s.nm, s.hp.set n (some c), s.rd ||| 2 ^ n, s.wr ||| 2 ^ n⟩ := by
          intro j hj
          simp only at hj ⊢
          rw [Tr.get_set, if_neg (by omega)]
          exact hwf j hj
        obtain ⟨hw, R, W, T⟩ := ih _ a s' hwf1 e
        refine ⟨hw, R ||| 2 ^ n, W ||| 2 ^ n, by rw [T.rd, Nat.or_assoc, Nat.or_comm R], by rw [T.wr, Nat.or_assoc, Nat.or_comm W], T.nm, fun j hj => ?_, fun j hj => ?_, fun j hj hf => ?_, fun j d' h1 h2 => (by
          have := T.ro j d' h1 h2
          simp only at this
          rw [Tr.get_set] at this
          split at this
          · obtain rfl := Option.some.inj this
            simp only [Bool.or_eq_false_iff] at hro
            rw [hro.2] at h2; cases h2
          · exact this), ?_⟩
        · simp only [Nat.testBit_or, Bool.or_eq_true] at hj ⊢
          exact hj.imp (T.sub j) id
        · simp only [Nat.testBit_or, bit_pow, Bool.or_eq_true, decide_eq_true_eq] at hj
          rcases hj with hj | rfl
          · exact T.low j hj
          · have h1 := T.nm; simp only at h1; omega
        · simp only [Nat.testBit_or, bit_pow, Bool.or_eq_false_iff, decide_eq_false_iff_not] at hj
          rw [T.keep j hj.1 hf]
          simp only
          rw [Tr.get_set, if_neg (fun h => hj.2 h.symm)]
        · intro s2 hnm hag
          have h2 : s2.hp.get n = some d := by rw [hag n (by simp) hn, hc]
          obtain ⟨s3, e1, e2, e3, e4, e5, e6⟩ := T.again ⟨s2.nm, s2.hp.set n (some c), s2.rd ||| 2 ^ n, s2.wr ||| 2 ^ n⟩ hnm (fun j hj hl => by
            simp only
            rw [Tr.get_set, Tr.get_set]
            split
            · rfl
            · exact hag j (by simp [hj]) hl)
          refine ⟨s3, by simp only [MM.run, h2, hro, cond_false, e1], e2, by rw [e3, Nat.or_assoc, Nat.or_comm R], by rw [e4, Nat.or_assoc, Nat.or_comm W], fun j hj => ?_, fun j hj hf => ?_⟩
          · by_cases hj2 : W.testBit j = true ∨ (s.nm ≤ j ∧ j < s'.nm)
            · exact e5 j hj2
            · have q1 : W.testBit j = false := by simpa using fun hc => hj2 (Or.inl hc)
              have q2 : ¬ (s.nm ≤ j ∧ j < s'.nm) := fun hc => hj2 (Or.inr hc)
              rw [e6 j q1 q2, T.keep j q1 q2]
              simp only
              rcases hj with hj | hj
              · simp only [Nat.testBit_or, bit_pow, q1, Bool.false_or, decide_eq_true_eq] at hj
                subst hj
                rw [Tr.get_set, Tr.get_set, if_pos rfl, if_pos rfl]
              · exact absurd hj q2
          · simp only [Nat.testBit_or, bit_pow, Bool.or_eq_false_iff, decide_eq_false_iff_not] at hj
            rw [e6 j hj.1 hf]
            simp only
            rw [Tr.get_set, if_neg (fun h => hj.2 h.symm)]
  | del n k ih =>
    intro s a s' hwf e
    simp only [MM.run] at e
    cases hc : s.hp.get n with
    | none => simp [hc] at e
    | some d =>
      simp only [hc] at e
      cases hro : d.ro with
      | true => simp [hro] at e
      | false =>
        simp only [hro, cond_false] at e
        have hn : n < s.nm := by
          rcases Nat.lt_or_ge n s.nm with h | h
          · exact h
          · rw [hwf n h] at hc; cases hc
        have hwf1 : St.wf ⟨s.nm, s.hp.set n none, s.rd ||| 2 ^ n, s.wr ||| 2 ^ n⟩ := by
          intro j hj
          simp only at hj ⊢
          rw [Tr.get_set, if_neg (by omega)]
          exact hwf j hj
        obtain ⟨hw, R, W, T⟩ := ih _ a s' hwf1 e
        refine ⟨hw, R ||| 2 ^ n, W ||| 2 ^ n, by rw [T.rd, Nat.or_assoc, Nat.or_comm R], by rw [T.wr, Nat.or_assoc, Nat.or_comm W], T.nm, fun j hj => ?_, fun j hj => ?_, fun j hj hf => ?_, fun j d' h1 h2 => (by
          have := T.ro j d' h1 h2
          simp only at this
          rw [Tr.get_set] at this
          split at this
          · cases this
          · exact this), ?_⟩
        · simp only [Nat.testBit_or, Bool.or_eq_true] at hj ⊢
          exact hj.imp (T.sub j) id
        · simp only [Nat.testBit_or, bit_pow, Bool.or_eq_true, decide_eq_true_eq] at hj
          rcases hj with hj | rfl
          · exact T.low j hj
          · have h1 := T.nm; simp only at h1; omega
        · simp only [Nat.testBit_or, bit_pow, Bool.or_eq_false_iff, decide_eq_false_iff_not] at hj
          rw [T.keep j hj.1 hf]
          simp only
          rw [Tr.get_set, if_neg (fun h => hj.2 h.symm)]
        · intro s2 hnm hag
          have h2 : s2.hp.get n = some d := by rw [hag n (by simp) hn, hc]
          obtain ⟨s3, e1, e2, e3, e4, e5, e6⟩ := T.again ⟨s2.nm, s2.hp.set n none, s2.rd ||| 2 ^ n, s2.wr ||| 2 ^ n⟩ hnm (fun j hj hl => by
            simp only
            rw [Tr.get_set, Tr.get_set]
            split
            · rfl
            · exact hag j (by simp [hj]) hl)
          refine ⟨s3, by simp only [MM.run, h2, hro, cond_false, e1], e2, by rw [e3, Nat.or_assoc, Nat.or_comm R], by rw [e4, Nat.or_assoc, Nat.or_comm W], fun j hj => ?_, fun j hj hf => ?_⟩
          · by_cases hj2 : W.testBit j = true ∨ (s.nm ≤ j ∧ j < s'.nm)
            · exact e5 j hj2
            · have q1 : W.testBit j = false := by simpa using fun hc => hj2 (Or.inl hc)
              have q2 : ¬ (s.nm ≤ j ∧ j < s'.nm) := fun hc => hj2 (Or.inr hc)
              rw [e6 j q1 q2, T.keep j q1 q2]
              simp only
              rcases hj with hj | hj
              · simp only [Nat.testBit_or, bit_pow, q1, Bool.false_or, decide_eq_true_eq] at hj
                subst hj
                rw [Tr.get_set, Tr.get_set, if_pos rfl, if_pos rfl]
              · exact absurd hj q2
          · simp only [Nat.testBit_or, bit_pow, Bool.or_eq_false_iff, decide_eq_false_iff_not] at hj
            rw [e6 j hj.1 hf]
            simp only
            rw [Tr.get_set, if_neg (fun h => hj.2 h.symm)]
  | new c k ih =>
    intro s a s' hwf e
    simp only [MM.run] at e
    cases hro : c.ro with
    | true => simp [hro] at e
    | false =>
      simp only [hro, cond_false] at e
      have hwf1 : St.wf ⟨s.nm + 1, s.hp.set s.nm (some c), s.rd, s.wr⟩ := by
        intro j hj
        simp only at hj ⊢
        rw [Tr.get_set, if_neg (by omega)]
        exact hwf j (by omega)
      obtain ⟨hw, R, W, T⟩ := ih s.nm _ a s' hwf1 e
      have h1 := T.nm
      simp only at h1
      refine ⟨hw, R, W, T.rd, T.wr, by omega, T.sub, T.low, fun j hj hf => ?_, fun j d' h1 h2 => (by
          have := T.ro j d' h1 h2
          simp only at this
          rw [Tr.get_set] at this
          split at this
          · obtain rfl := Option.some.inj this
            rw [hro] at h2; cases h2
          · exact this), ?_⟩
      · rw [T.keep j hj (by simp only; omega)]
        simp only
        rw [Tr.get_set, if_neg (by omega)]
      · intro s2 hnm hag
        obtain ⟨s3, e1, e2, e3, e4, e5, e6⟩ := T.again ⟨s2.nm + 1, s2.hp.set s2.nm (some c), s2.rd, s2.wr⟩ (by simp only; omega) (fun j hj hl => by
          simp only at hl ⊢
          rw [Tr.get_set, Tr.get_set, hnm]
          split
          · rfl
          · exact hag j hj (by omega))
        refine ⟨s3, by simp only [MM.run, hro, cond_false, hnm] at e1 ⊢; exact e1, e2, e3, e4, fun j hj => ?_, fun j hj hf => ?_⟩
        · by_cases hj2 : W.testBit j = true ∨ (s.nm + 1 ≤ j ∧ j < s'.nm)
          · exact e5 j hj2
          · have q1 : W.testBit j = false := by simpa using fun hc => hj2 (Or.inl hc)
            have q2 : ¬ (s.nm + 1 ≤ j ∧ j < s'.nm) := fun hc => hj2 (Or.inr hc)
            rw [e6 j q1 q2, T.keep j q1 q2]
            simp only
            have : j = s.nm := by
              rcases hj with hj | hj
              · rw [q1] at hj; cases hj
              · omega
            rw [hnm, this, Tr.get_set, Tr.get_set, if_pos rfl, if_pos rfl]
        · rw [e6 j hj (by simp only; omega)]
          simp only
          rw [Tr.get_set, if_neg (by omega)]
end Go.Proofs.YteecpkkgjioplaaDoor

/- What an abstract heap says of a world; what allocating, storing and forgetting do to it. -/
namespace Go.Proofs.YteecpkkgjioplaaDoor
open Go

/-- The entries of a map, in order. -/
inductive Ents (ρ : Env) : List (Nat × SV × SV) → List MapEntry → Prop where
  | nil : Ents ρ [] []
  | cons {b : Nat} {k v : SV} {l : List (Nat × SV × SV)} {e : MapEntry} {r : List MapEntry} (hb : e.born = b) (hk : k.val ρ = some e.key) (hv : v.val ρ = some e.val) (h : Ents ρ l r) : Ents ρ ((b, k, v) :: l) (e :: r)
theorem Ents.le {ρ ρ' : Env} (h : Env.le ρ ρ') {l : List (Nat × SV × SV)} {r : List MapEntry} (e : Ents ρ l r) : Ents ρ' l r := by
  induction e with
  | nil => exact .nil
  | cons hb hk hv _ ih => exact .cons hb (SV.val_le h _ _ hk) (SV.val_le h _ _ hv) ih
theorem Ents.len {ρ : Env} {l : List (Nat × SV × SV)} {r : List MapEntry} (e : Ents ρ l r) : r.length = l.length := by
  induction e with
  | nil => rfl
  | cons _ _ _ _ ih => simp [ih]

/-- What a chunk says of an object. -/
def Chunk.obj (ρ : Env) (p : Place) : Chunk → Obj → Prop
  | .cells l shut ro, o => ∃ arr ty fz, o = .cells arr ty fz ∧ p.sz = arr.size ∧ (ro = false → ∀ i, i < arr.size → ¬ (fz.1 ≤ i ∧ i < fz.2)) ∧
      l.length ≤ p.sz ∧ (shut = true → l.length = p.sz) ∧ ∃ vs, SV.vals ρ l = some vs ∧ ∀ (i : Nat) (v : Value), vs[i]? = some v → arr[i]? = some v
  | .map es clock, o => ∃ arr, o = .map arr clock ∧ Ents ρ es arr.toList
  | .strIt s pos, o => o = .stringIter (Go.Proofs.YteecpkkgjioplaaDoor.bytesOf s) pos
  | .mapIt m since seen stepped, o => ∃ mm, o = .mapIter mm since seen.toArray stepped ∧ (∀ n, m = some n → ∃ q, ρ n = some q ∧ mm = some q.b) ∧ (m = none → mm = none)
def Chunk.holds (ρ : Env) (p : Place) (w : World) (c : Chunk) : Prop := ∃ o, w.heap[p.b]? = some o ∧ c.obj ρ p o

theorem Chunk.obj_le {ρ ρ' : Env} (h : Env.le ρ ρ') {p : Place} {c : Chunk} {o : Obj} (hc : c.obj ρ p o) : c.obj ρ' p o := by
  cases c with
  | cells l shut ro =>
    obtain ⟨arr, ty, fz, e, h1, h2, h3, h4, vs, h5, h6⟩ := hc
    exact ⟨arr, ty, fz, e, h1, h2, h3, h4, vs, SV.vals_le h _ _ h5, h6⟩
  | map es clock =>
    obtain ⟨arr, e, h1⟩ := hc
    exact ⟨arr, e, h1.le h⟩
  | strIt s pos => simpa [Chunk.obj] using hc
  | mapIt m since seen stepped =>
    obtain ⟨mm, e, h1, h2⟩ := hc
    refine ⟨mm, e, fun n hn => ?_, h2⟩
    obtain ⟨q, hq, hm⟩ := h1 n hn
    exact ⟨q, h _ _ hq, hm⟩

/-- The world at the beginning, and which of its blocks may be written. -/
structure Base where
  w0 : World
  M : Nat → Prop
  gl : Nat → Option Nat

structure Sim (B : Base) (ρ : Env) (hp : Hp) (w : World) : Prop where
  size : B.w0.heap.size ≤ w.heap.size
  tape : w.tape = B.w0.tape
  os : w.os = B.w0.os
  output : w.output = B.w0.output
  frame : ∀ k, k < B.w0.heap.size → ¬ B.M k → w.heap[k]? = B.w0.heap[k]?
  own : ∀ n c, hp.get n = some c → ∃ p, ρ n = some p ∧ c.holds ρ p w ∧ (c.ro = false → p.b < B.w0.heap.size → B.M p.b) ∧ (c.ro = true → p.b < B.w0.heap.size ∧ ¬ B.M p.b)
  gl : ∀ g n, B.gl g = some n → ∃ sz, ρ n = some ⟨g, sz⟩
  inj : ∀ n m c d p q, hp.get n = some c → hp.get m = some d → c.ro = false → d.ro = false → ρ n = some p → ρ m = some q → p.b = q.b → n = m

def Env.add (ρ : Env) (n : Nat) (p : Place) : Env := fun m => if m = n then some p else ρ m
theorem Env.le_add {ρ : Env} {n : Nat} {p : Place} (h : ρ n = none) : Env.le ρ (ρ.add n p) := by
  intro m q hm
  unfold Env.add
  split
  · rename_i e; rw [e, h] at hm; cases hm
  · exact hm
theorem Env.add_self {ρ : Env} {n : Nat} {p : Place} : (ρ.add n p) n = some p := by simp [Env.add]

theorem Sim.lt {B : Base} {ρ : Env} {hp : Hp} {w : World} (h : Sim B ρ hp w) {n : Nat} {c : Chunk} {p : Place} (hc : hp.get n = some c) (hp' : ρ n = some p) : p.b < w.heap.size := by
  obtain ⟨q, hq, ⟨o, ho, _⟩, _⟩ := h.own n c hc
  rw [hp'] at hq
  obtain rfl := Option.some.inj hq
  exact (Array.getElem?_eq_some_iff.1 ho).1

/-- A new block. -/
theorem Sim.new {B : Base} {ρ : Env} {hp : Hp} {w : World} (h : Sim B ρ hp w) {n : Nat} (hn : ρ n = none) {c : Chunk} {o : Obj} {sz : Nat}
    (hc : c.obj (ρ.add n ⟨w.heap.size, sz⟩) ⟨w.heap.size, sz⟩ o) (hcro : c.ro = false) :
    Sim B (ρ.add n ⟨w.heap.size, sz⟩) (hp.set n (some c)) (w.alloc o) := by
  have hle := Env.le_add (p := ⟨w.heap.size, sz⟩) hn
  have old : ∀ k, k < w.heap.size → (w.alloc o).heap[k]? = w.heap[k]? := fun k hk => by show (w.heap.push o)[k]? = _; rw [Array.getElem?_push]; simp [Nat.ne_of_lt hk]
  refine ⟨?_, h.tape, h.os, h.output, fun k hk hm => ?_, fun m d hd => ?_, fun g m hg => let ⟨z, hz⟩ := h.gl g m hg; ⟨z, hle _ _ hz⟩, fun m m' d d' p q hd hd' hro hro' hp1 hq1 e => ?_⟩
  · have := h.size; simp; omega
  · have := h.size
    rw [old k (by omega)]
    exact h.frame k hk hm
  · rw [Tr.get_set] at hd
    split at hd
    · rename_i e
      subst e
      obtain rfl := Option.some.inj hd
      refine ⟨_, Env.add_self, ⟨o, by show (w.heap.push o)[w.heap.size]? = _; simp, hc⟩, fun _ hlt => ?_, fun h => by rw [hcro] at h; cases h⟩
      have := h.size
      simp only at hlt
      omega
    · obtain ⟨p, hp1, ⟨o', ho', hob⟩, hM⟩ := h.own m d hd
      refine ⟨p, hle _ _ hp1, ⟨o', ?_, Chunk.obj_le hle hob⟩, hM⟩
      rw [old _ (Array.getElem?_eq_some_iff.1 ho').1]
      exact ho'
  · rw [Tr.get_set] at hd hd'
    split at hd
    · rename_i em
      split at hd'
      · rename_i em'; rw [em, em']
      · rename_i hne
        exfalso
        rw [em] at hp1
        rw [Env.add_self] at hp1
        obtain rfl := Option.some.inj hp1
        have hq0 : ρ m' = some q := by simpa [Env.add, hne] using hq1
        have := h.lt hd' hq0
        simp only at e
        omega
    · rename_i hne
      have hp0 : ρ m = some p := by simpa [Env.add, hne] using hp1
      split at hd'
      · rename_i em'
        exfalso
        rw [em', Env.add_self] at hq1
        obtain rfl := Option.some.inj hq1
        have := h.lt hd hp0
        simp only at e
        omega
      · rename_i hne'
        have hq0 : ρ m' = some q := by simpa [Env.add, hne'] using hq1
        exact h.inj m m' d d' p q hd hd' hro hro' hp0 hq0 e

/-- One block is changed. -/
theorem Sim.change {B : Base} {ρ : Env} {hp : Hp} {w w' : World} (h : Sim B ρ hp w) {n : Nat} {c c' : Chunk} {p : Place} (hc : hp.get n = some c) (hro : c.ro = false) (hp1 : ρ n = some p)
    (hsz : w'.heap.size = w.heap.size) (ht : w'.tape = w.tape) (hos : w'.os = w.os) (hout : w'.output = w.output) (hk : ∀ k, k ≠ p.b → w'.heap[k]? = w.heap[k]?) (hro' : c'.ro = false) (hh : c'.holds ρ p w') :
    Sim B ρ (hp.set n (some c')) w' := by
  have hM : p.b < B.w0.heap.size → B.M p.b := by
    obtain ⟨q, hq, _, hM, _⟩ := h.own n c hc
    rw [hp1] at hq
    obtain rfl := Option.some.inj hq
    exact hM hro
  refine ⟨by rw [hsz]; exact h.size, ht.trans h.tape, hos.trans h.os, hout.trans h.output, fun k hlt hm => ?_, fun m d hd => ?_, h.gl, fun m m' d d' p1 q hd hd' hr hr' hpm hqm e => ?_⟩
  · rw [hk k (fun e => hm (e ▸ hM (e ▸ hlt)))]
    exact h.frame k hlt hm
  · rw [Tr.get_set] at hd
    split at hd
    · rename_i e
      subst e
      obtain rfl := Option.some.inj hd
      exact ⟨p, hp1, hh, fun _ => hM, fun h => by rw [hro'] at h; cases h⟩
    · rename_i hne
      obtain ⟨q, hq, ⟨o, ho, hob⟩, hMq⟩ := h.own m d hd
      refine ⟨q, hq, ⟨o, ?_, hob⟩, hMq⟩
      rw [hk _ (fun e => ?_)]
      · exact ho
      · cases hrd : d.ro with
        | false => exact hne (h.inj n m c d p q hc hd hro hrd hp1 hq e.symm).symm
        | true =>
          obtain ⟨q1, q2⟩ := hMq.2 hrd
          exact q2 (e ▸ hM (e ▸ q1))
  · rw [Tr.get_set] at hd hd'
    split at hd
    · rename_i em
      split at hd'
      · rename_i em'; rw [em, em']
      · rw [em] at hpm ⊢
        exact h.inj n m' c d' p1 q hc hd' hro hr' hpm hqm e
    · split at hd'
      · rename_i hne em'
        rw [em'] at hqm ⊢
        exact h.inj m n d c p1 q hd hc hr hro hpm hqm e
      · exact h.inj m m' d d' p1 q hd hd' hr hr' hpm hqm e

/-- A name is forgotten. -/
theorem Sim.del {B : Base} {ρ : Env} {hp : Hp} {w : World} (h : Sim B ρ hp w) (n : Nat) : Sim B ρ (hp.set n none) w := by
  refine ⟨h.size, h.tape, h.os, h.output, h.frame, fun m d hd => ?_, h.gl, fun m m' d d' p q hd hd' hr hr' hpm hqm e => ?_⟩
  · rw [Tr.get_set] at hd
    split at hd
    · cases hd
    · exact h.own m d hd
  · rw [Tr.get_set] at hd hd'
    split at hd
    · cases hd
    · split at hd'
      · cases hd'
      · exact h.inj m m' d d' p q hd hd' hr hr' hpm hqm e

/-- The same heap by what it yields. -/
theorem Sim.congr {B : Base} {ρ : Env} {hp hp' : Hp} {w : World} (h : Sim B ρ hp w) (e : ∀ n, hp'.get n = hp.get n) : Sim B ρ hp' w :=
  ⟨h.size, h.tape, h.os, h.output, h.frame, fun n c hc => h.own n c (by rw [← e]; exact hc), h.gl, fun n m c d p q hc hd => h.inj n m c d p q (by rw [← e]; exact hc) (by rw [← e]; exact hd)⟩
/-- More draws. -/
theorem Sim.drew {B : Base} {ρ : Env} {hp : Hp} {w : World} (h : Sim B ρ hp w) (d : Nat) : Sim B ρ hp { w with drawn := d } :=
  ⟨h.size, h.tape, h.os, h.output, h.frame, fun n c hc => let ⟨p, h1, ⟨o, h2, h3⟩, h4⟩ := h.own n c hc; ⟨p, h1, ⟨o, h2, h3⟩, h4⟩, h.gl, h.inj⟩
end Go.Proofs.YteecpkkgjioplaaDoor

/- Operations on abstract values: memory. -/
namespace Go.Proofs.YteecpkkgjioplaaDoor
open Go

theorem add_eq (b o i : Nat) : (⟨b, o, none⟩ : Addr).add i = ⟨b, o + i, none⟩ := by
  unfold Addr.add; split <;> simp_all
theorem bytesOf_toNat (s : ByteArray) : bytesOf (s.data.toList.map (·.toNat)) = s := by
  unfold bytesOf
  rw [List.map_map]
  have : (UInt8.ofNat ∘ fun x : UInt8 => x.toNat) = id := by funext x; simp
  rw [this, List.map_id]

def toSV1 : Value → SV
  | .bool b => .bool b
  | .int k n => .int k n
  | .string s => .str (s.data.toList.map (·.toNat))
  | .pointer none => .nilp
  | .slice none 0 0 => .nils
  | .map none => .nilm
  | .nilFunc => .nilf
  | .nilIface => .nili
  | v => .raw v
def toSV : Value → SV
  | .agg cs => .agg (cs.toList.map toSV1)
  | .tuple cs => .tup (cs.toList.map toSV1)
  | v => toSV1 v
theorem toSV1_val (ρ : Env) (v : Value) : (toSV1 v).val ρ = some v := by
  unfold toSV1
  split <;> simp [SV.val, bytesOf_toNat]
theorem toSV1_vals (ρ : Env) : ∀ l : List Value, SV.vals ρ (l.map toSV1) = some l
  | [] => rfl
  | v :: l => SV.vals_mk (toSV1_val ρ v) (toSV1_vals ρ l)
theorem toSV_val (ρ : Env) (v : Value) : (toSV v).val ρ = some v := by
  unfold toSV
  split
  · simp [SV.val, toSV1_vals]
  · simp [SV.val, toSV1_vals]
  · exact toSV1_val ρ v

/-- A frame's slots. -/
structure Tm where
  sz : Nat
  tr : Tr SV
def Tm.set (t : Tm) (d : Nat) (x : SV) : Option Tm := bif Nat.blt d t.sz then some ⟨t.sz, t.tr.set d (some x)⟩ else none
def Tm.put (t : Tm) (d : Option Nat) (x : SV) : Option Tm :=
  match d with
  | none => some t
  | some d => t.set d x
structure TmRel (ρ : Env) (t : Tm) (a : Act) : Prop where
  sz : a.tmps.size = t.sz
  get : ∀ i x, t.tr.get i = some x → ∃ v, a.tmps[i]? = some v ∧ x.val ρ = some v
theorem TmRel.le {ρ ρ' : Env} {t : Tm} {a : Act} (h : TmRel ρ t a) (hle : Env.le ρ ρ') : TmRel ρ' t a :=
  ⟨h.sz, fun i x hx => let ⟨v, h1, h2⟩ := h.get i x hx; ⟨v, h1, SV.val_le hle _ _ h2⟩⟩
theorem TmRel.put {ρ : Env} {t t' : Tm} {a : Act} (h : TmRel ρ t a) {d : Option Nat} {x : SV} {v : Value} (hx : x.val ρ = some v) (e : t.put d x = some t') : TmRel ρ t' (a.put d v) := by
  cases d with
  | none =>
    simp only [Tm.put, Option.some.injEq] at e
    subst e
    exact h
  | some d =>
    simp only [Tm.put, Tm.set] at e
    cases hb : Nat.blt d t.sz with
    | false => simp [hb] at e
    | true =>
      have hd : d < t.sz := by simpa [Nat.blt_eq] using hb
      simp only [hb, cond_true, Option.some.injEq] at e
      subst e
      refine ⟨by simp [Act.put, h.sz], fun i y hy => ?_⟩
      simp only at hy
      rw [Tr.get_set] at hy
      split at hy
      · rename_i e
        subst e
        obtain rfl := Option.some.inj hy
        exact ⟨v, by simp [Act.put, h.sz, hd], hx⟩
      · rename_i hne
        obtain ⟨u, hu, hv⟩ := h.get i y hy
        refine ⟨u, ?_, hv⟩
        simp only [Act.put]
        rw [Array.getElem?_setIfInBounds_ne (by omega)]
        exact hu

/-- What an operand holds. -/
def evO (gl : Nat → Option Nat) (t : Tm) : Operand → Option SV
  | .tmp i => t.tr.get i
  | .const v => some (toSV v)
  | .global g => (gl g).map fun n => .ptr n 0
  | .func f => some (.fn (.func f) [] [])
theorem evO_ok {B : Base} {ρ : Env} {hp : Hp} {w : World} {t : Tm} {a : Act} (hs : Sim B ρ hp w) (ht : TmRel ρ t a) {x : Operand} {r : SV} (e : evO B.gl t x = some r) : r.val ρ = some (a.eval x) := by
  cases x with
  | tmp i =>
    obtain ⟨v, h1, h2⟩ := ht.get i r e
    rw [h2]
    simp [Act.eval, Array.getD_eq_getD_getElem?, h1]
  | const v =>
    simp only [evO, Option.some.injEq] at e
    subst e
    exact toSV_val ρ v
  | global g =>
    simp only [evO, Option.map_eq_some_iff] at e
    obtain ⟨n, hn, rfl⟩ := e
    obtain ⟨sz, hz⟩ := hs.gl g n hn
    simp [SV.val, hz, Act.eval, Place.addr]
  | func f =>
    simp only [evO, Option.some.injEq] at e
    subst e
    simp [SV.val, SV.vals, Act.eval]

/-- What comes of an operation. -/
def Out (B : Base) (ρ : Env) (nm nm' : Nat) (hp' : Hp) (r : SV) (v : Value) (w' : World) : Prop :=
  ∃ ρ', Env.le ρ ρ' ∧ (∀ n, ρ' n ≠ none → ρ n ≠ none ∨ (nm ≤ n ∧ n < nm')) ∧ r.val ρ' = some v ∧ Sim B ρ' hp' w'
def OpOk (P : Program) (B : Base) (ρ : Env) (m : MM SV) (sem : Sem Value) : Prop :=
  ∀ (s s' : St) (r : SV) (w : World), (∀ n, s.nm ≤ n → n < s'.nm → ρ n = none) → Sim B ρ s.hp w → m.run s = some (r, s') →
    ∃ v w', sem.run P w = .ok v w' ∧ Out B ρ s.nm s'.nm s'.hp r v w'
def MM.opt : Option SV → MM SV
  | none => .fail
  | some r => .ret r

section
variable {P : Program} {B : Base} {ρ : Env}
theorem OpOk.pure {o : Option SV} {sem : Sem Value} (h : ∀ r, o = some r → ∃ v, r.val ρ = some v ∧ ∀ w, sem.run P w = .ok v w) : OpOk P B ρ (MM.opt o) sem := by
  intro s s' r w _ hs e
  cases o with
  | none => simp [MM.opt, MM.run] at e
  | some q =>
    simp only [MM.opt, MM.run, Option.some.injEq, Prod.mk.injEq] at e
    obtain ⟨rfl, rfl⟩ := e
    obtain ⟨v, hv, hw⟩ := h q rfl
    exact ⟨v, w, hw w, ρ, Env.le.refl ρ, fun n hn => Or.inl hn, hv, hs⟩

/-- The cells of a value. -/
def SV.cells : SV → Option (List SV)
  | .agg l => some l
  | .raw _ => none
  | x => some [x]
theorem SV.cells_ok {x : SV} {l : List SV} {v : Value} (h : x.cells = some l) (hv : x.val ρ = some v) : SV.vals ρ l = some v.cells.toList := by
  cases x <;> simp only [SV.cells, Option.some.injEq] at h
  case raw => cases h
  case agg m =>
    subst h
    simp only [SV.val, Option.map_eq_some_iff] at hv
    obtain ⟨vs, hvs, rfl⟩ := hv
    simpa [Value.cells] using hvs
  all_goals
    subst h
    refine (SV.vals_mk hv rfl).trans ?_
    simp only [SV.val, Option.map_eq_some_iff, Option.some.injEq] at hv
  case fn f a b =>
    cases ha : SV.vals ρ a <;> cases hb : SV.vals ρ b <;> simp [ha, hb] at hv
    subst hv
    rfl
  all_goals first
    | (subst hv; rfl)
    | (obtain ⟨q, hq, rfl⟩ := hv; rfl)
def SV.one : SV → Bool
  | .agg _ | .tup _ | .raw _ => false
  | _ => true
theorem SV.one_ok {x : SV} {v : Value} (h : x.one = true) (hv : x.val ρ = some v) : v.oneCell' = true := by
  cases x <;> simp only [SV.one] at h <;> try cases h
  case fn f a b =>
    cases ha : SV.vals ρ a <;> cases hb : SV.vals ρ b <;> simp [SV.val, ha, hb] at hv
    subst hv
    rfl
  all_goals
    simp only [SV.val, Option.map_eq_some_iff, Option.some.injEq] at hv
    first
    | (subst hv; rfl)
    | (obtain ⟨q, hq, rfl⟩ := hv; rfl)
theorem SV.all_one {l : List SV} {vs : List Value} (h : l.all SV.one = true) (hv : SV.vals ρ l = some vs) : ∀ v ∈ vs, v.oneCell' = true := by
  intro v hm
  obtain ⟨i, hi⟩ := List.getElem?_of_mem hm
  obtain ⟨x, hx, hxv⟩ := SV.vals_get' hv hi
  exact SV.one_ok (List.all_eq_true.1 h x (List.mem_of_getElem? hx)) hxv

theorem cell_row {w : World} {b : Nat} {arr : Array Value} {ty : TypeId} {fz : Nat × Nat} (h : w.heap[b]? = some (.cells arr ty fz)) (i : Nat) : w.cell? ⟨b, i, none⟩ = arr[i]? := by
  simp [World.cell?, h]
theorem frozen_row {w : World} {b : Nat} {arr : Array Value} {ty : TypeId} {fz : Nat × Nat} (h : w.heap[b]? = some (.cells arr ty fz)) (i : Nat) : w.frozen? ⟨b, i, none⟩ = decide (fz.1 ≤ i ∧ i < fz.2) := by
  simp [World.frozen?, h]

/-- Nothing but one block has changed. -/
structure OneBut (b : Nat) (w w' : World) : Prop where
  size : w'.heap.size = w.heap.size
  tape : w'.tape = w.tape
  os : w'.os = w.os
  output : w'.output = w.output
  heap : ∀ k, k ≠ b → w'.heap[k]? = w.heap[k]?
theorem OneBut.trans {b : Nat} {w w' w'' : World} (h : OneBut b w w') (h' : OneBut b w' w'') : OneBut b w w'' :=
  ⟨h'.size.trans h.size, h'.tape.trans h.tape, h'.os.trans h.os, h'.output.trans h.output, fun k hk => (h'.heap k hk).trans (h.heap k hk)⟩
theorem oneBut_setCell (w : World) (b i : Nat) (v : Value) : OneBut b w (w.setCell ⟨b, i, none⟩ v) :=
  ⟨by simp, rfl, rfl, rfl, fun k hk => by simp only [World.setCell]; rw [Array.getElem?_modify, if_neg (by simpa using fun e => hk e.symm)]⟩
theorem setCell_row {w : World} {b : Nat} {arr : Array Value} {ty : TypeId} {fz : Nat × Nat} (h : w.heap[b]? = some (.cells arr ty fz)) (i : Nat) (v : Value) : (w.setCell ⟨b, i, none⟩ v).heap[b]? = some (.cells (arr.setIfInBounds i v) ty fz) := by
  simp [World.setCell, Array.getElem?_modify, h]

theorem run_storeList (b o : Nat) : ∀ (vs : List Value) (i : Nat) (arr : Array Value) (ty : TypeId) (fz : Nat × Nat) (w : World), w.heap[b]? = some (.cells arr ty fz) → o + i + vs.length ≤ arr.size →
    (∀ j, j < arr.size → ¬ (fz.1 ≤ j ∧ j < fz.2)) → (∀ v ∈ vs, v.oneCell' = true) →
    ∃ w' arr', (storeCells ⟨b, o, none⟩ vs i).run P w = .ok () w' ∧ w'.heap[b]? = some (.cells arr' ty fz) ∧ arr'.size = arr.size ∧
      (∀ j, arr'[j]? = if o + i ≤ j ∧ j < o + i + vs.length then vs[j - (o + i)]? else arr[j]?) ∧ OneBut b w w'
  | [], i, arr, ty, fz, w, hb, _, _, _ => ⟨w, arr, rfl, hb, rfl, fun j => by simp; omega, ⟨rfl, rfl, rfl, rfl, fun _ _ => rfl⟩⟩
  | v :: vs, i, arr, ty, fz, w, hb, hl, hf, h1 => by
    simp only [List.length_cons] at hl
    have hlt : o + i < arr.size := by omega
    have hcell : w.cell? ⟨b, o + i, none⟩ = some arr[o + i] := by rw [cell_row hb]; simp [hlt]
    have hfr : w.frozen? ⟨b, o + i, none⟩ = false := by rw [frozen_row hb]; simpa using hf _ hlt
    have hone := h1 v (by simp)
    obtain ⟨w', arr', e1, e2, e3, e4, e5⟩ := run_storeList b o vs (i + 1) (arr.setIfInBounds (o + i) v) ty fz (w.setCell ⟨b, o + i, none⟩ v) (setCell_row hb _ _) (by simp; omega) (by simpa using hf) (fun u hu => h1 u (by simp [hu]))
    refine ⟨w', arr', ?_, e2, by simpa using e3, fun j => ?_, (oneBut_setCell w b _ v).trans e5⟩
    · simp only [storeCells, Sem.run_bind, add_eq, run_store _ _ _ _ _ hone, hcell, hfr]
      simpa using e1
    · rw [e4]
      by_cases hj : j = o + i
      · subst hj
        simp [hlt]
        omega
      · have : (o + i ≤ j ∧ j < o + i + (v :: vs).length) ↔ (o + (i + 1) ≤ j ∧ j < o + (i + 1) + vs.length) := by simp only [List.length_cons]; omega
        simp only [this]
        split
        · rename_i hc
          have : j - (o + i) = (j - (o + (i + 1))) + 1 := by omega
          rw [this]
          simp
        · rw [Array.getElem?_setIfInBounds_ne (by omega)]

/-- Part of a row, put in. -/
def splice (l : List SV) (off : Nat) (xs : List SV) : List SV := l.take off ++ (xs ++ l.drop (off + xs.length))
theorem splice_len {l : List SV} {off : Nat} {xs : List SV} (h : off + xs.length ≤ l.length) : (splice l off xs).length = l.length := by simp [splice]; omega
theorem splice_get {α : Type} (l : List α) (off : Nat) (xs : List α) (h : off + xs.length ≤ l.length) (j : Nat) : (l.take off ++ (xs ++ l.drop (off + xs.length)))[j]? = if off ≤ j ∧ j < off + xs.length then xs[j - off]? else l[j]? := by
  by_cases h1 : j < off
  · rw [List.getElem?_append_left (by simp; omega), List.getElem?_take, if_pos h1, if_neg (by omega)]
  · rw [List.getElem?_append_right (by simp; omega)]
    simp only [List.length_take]
    rw [show min off l.length = off by omega]
    by_cases h2 : j < off + xs.length
    · rw [if_pos (by omega), List.getElem?_append_left (by omega)]
    · rw [if_neg (by omega), List.getElem?_append_right (by omega), List.getElem?_drop]
      congr 1
      omega
theorem splice_vals {l xs : List SV} {vs us : List Value} {off : Nat} (h : SV.vals ρ l = some vs) (h' : SV.vals ρ xs = some us) : SV.vals ρ (splice l off xs) = some (vs.take off ++ (us ++ vs.drop (off + us.length))) := by
  unfold splice
  rw [SV.vals_len h']
  exact SV.vals_append (SV.vals_take _ h) (SV.vals_append h' (SV.vals_drop _ h))

/-- A type whose values take several cells. -/
def tyAgg (P : Program) (t : TypeId) : Bool :=
  match P.underlying t with
  | some (.struct _) => true
  | some (.array _ _) => true
  | _ => false
theorem run_isAgg {t : TypeId} {d : TypeDesc} (h : P.underlying t = some d) (w : World) : (isAgg t).run P w = .ok (tyAgg P t) w := by
  cases d <;> simp [isAgg, run_underlying h, tyAgg, h]
theorem run_typeInfo' {t : TypeId} {i : TypeInfo} (h : P.info? t = some i) (w : World) : (typeInfo t).run P w = .ok i w := by simp [typeInfo, h]
theorem run_sizeOf' {t : TypeId} {i : TypeInfo} (h : P.info? t = some i) (w : World) : (sizeOf t).run P w = .ok i.size w := by simp [sizeOf, run_typeInfo' h]
theorem run_zero' {t : TypeId} {i : TypeInfo} {z : Value} (h : P.info? t = some i) (hz : i.zero = some z) (w : World) : (zeroValue t).run P w = .ok z w := by simp [zeroValue, run_typeInfo' h, hz]


/-- LOAD. -/
def loadM (P : Program) (t : TypeId) : SV → MM SV
  | .ptr n off => .get n fun c =>
    match c with
    | .cells l _ _ =>
      match P.underlying t, P.info? t with
      | some _, some i =>
        bif tyAgg P t then (bif Nat.ble (off + i.size) l.length then .ret (.agg ((l.drop off).take i.size)) else .fail)
        else MM.opt l[off]?
      | _, _ => .fail
    | _ => .fail
  | _ => .fail
theorem load_ok {t : TypeId} {x : SV} {v : Value} (hx : x.val ρ = some v) : OpOk P B ρ (loadM P t x) (Instr.loadAt t v) := by
  intro s s' r w _ hs e
  cases x <;> simp only [loadM, MM.run] at e <;> try cases e
  rename_i n off
  simp only [SV.val, Option.map_eq_some_iff] at hx
  obtain ⟨p, hp, rfl⟩ := hx
  cases hc : s.hp.get n with
  | none => simp [hc] at e
  | some c =>
    simp only [hc] at e
    obtain ⟨q, hq, ⟨o, ho, hob⟩, hM⟩ := hs.own n c hc
    rw [hp] at hq
    obtain rfl := Option.some.inj hq
    cases c <;> simp only [MM.run] at e <;> try cases e
    rename_i l shut ro
    obtain ⟨arr, ty, fz, rfl, hsz, _, hlen, _, vs, hvs, hget⟩ := hob
    cases hu : P.underlying t with
    | none => simp [hu, MM.run] at e
    | some d =>
      cases hi : P.info? t with
      | none => simp [hu, hi, MM.run] at e
      | some i =>
        simp only [hu, hi] at e
        have ha := run_isAgg (P := P) hu w
        cases hag : tyAgg P t with
        | true =>
          simp only [hag, cond_true] at e
          cases hb : Nat.ble (off + i.size) l.length with
          | false => simp [hb, MM.run] at e
          | true =>
            have hle : off + i.size ≤ l.length := Nat.le_of_ble_eq_true hb
            simp only [hb, cond_true, MM.run, Option.some.injEq, Prod.mk.injEq] at e
            obtain ⟨rfl, rfl⟩ := e
            have hvl := SV.vals_len hvs
            have hcs : SV.vals ρ ((l.drop off).take i.size) = some ((vs.drop off).take i.size) := SV.vals_take _ (SV.vals_drop _ hvs)
            have hln : ((vs.drop off).take i.size).length = i.size := by simp; omega
            have hr := run_loadCells_list (P := P) w ⟨p.b, off, none⟩ ((vs.drop off).take i.size) (fun j u hu => by
              rw [add_eq, cell_row ho]
              rw [List.getElem?_take] at hu
              split at hu
              · rw [List.getElem?_drop] at hu
                exact hget _ _ hu
              · cases hu)
            rw [hln] at hr
            refine ⟨.agg ((vs.drop off).take i.size).toArray, w, ?_, ρ, Env.le.refl ρ, fun n hn => Or.inl hn, by simp [SV.val, hcs], hs⟩
            simp only [Instr.loadAt, Instr.sureAddr, loadVar, Sem.run_bind, Sem.run_pure, Result.andThen_ok, ha, hag, if_true, run_sizeOf' hi, Place.addr, hr]
        | false =>
          simp only [hag, cond_false] at e
          cases hlo : l[off]? with
          | none => simp [hlo, MM.opt, MM.run] at e
          | some y =>
            simp only [hlo, MM.opt, MM.run, Option.some.injEq, Prod.mk.injEq] at e
            obtain ⟨rfl, rfl⟩ := e
            obtain ⟨u, hu1, hu2⟩ := SV.vals_get hvs hlo
            refine ⟨u, w, ?_, ρ, Env.le.refl ρ, fun n hn => Or.inl hn, hu2, hs⟩
            simp [Instr.loadAt, Instr.sureAddr, loadVar, ha, hag, Place.addr, cell_row ho, hget _ _ hu1]

/-- STORE. -/
def storeM (P : Program) (t : TypeId) (a x : SV) : MM SV :=
  match a, x.cells with
  | .ptr n off, some xs => .get n fun c =>
    match c with
    | .cells l shut ro =>
      match P.info? t with
      | some i => bif Nat.beq xs.length i.size && Nat.ble (off + xs.length) l.length && xs.all SV.one then .put n (.cells (splice l off xs) shut ro) (.ret (.tup [])) else .fail
      | none => .fail
    | _ => .fail
  | _, _ => .fail
theorem store_ok {t : TypeId} {a x : SV} {v u : Value} (ha : a.val ρ = some v) (hx : x.val ρ = some u) : OpOk P B ρ (storeM P t a x) (do Instr.storeAt t v u; pure undef) := by
  intro s s' r w _ hs e
  cases hxs : x.cells with
  | none => cases a <;> simp [storeM, hxs, MM.run] at e
  | some xs =>
    cases a <;> simp only [storeM, hxs, MM.run] at e <;> try cases e
    rename_i n off
    simp only [SV.val, Option.map_eq_some_iff] at ha
    obtain ⟨p, hp, rfl⟩ := ha
    cases hc : s.hp.get n with
    | none => simp [hc] at e
    | some c =>
      simp only [hc] at e
      obtain ⟨q, hq, ⟨o, ho, hob⟩, hM⟩ := hs.own n c hc
      rw [hp] at hq
      obtain rfl := Option.some.inj hq
      cases c <;> simp only [MM.run] at e <;> try cases e
      rename_i l shut ro
      obtain ⟨arr, ty, fz, rfl, hsz, hfz, hlen, hshut, vs, hvs, hget⟩ := hob
      cases hi : P.info? t with
      | none => simp [hi, MM.run] at e
      | some i =>
        simp only [hi] at e
        cases hb : (Nat.beq xs.length i.size && Nat.ble (off + xs.length) l.length && xs.all SV.one) with
        | false => simp [hb, MM.run] at e
        | true =>
          simp only [hb, cond_true, MM.run, hc] at e
          simp only [Bool.and_eq_true] at hb
          obtain ⟨⟨hb1, hb2⟩, hb3⟩ := hb
          have h1 : xs.length = i.size := Nat.eq_of_beq_eq_true hb1
          have h2 : off + xs.length ≤ l.length := Nat.le_of_ble_eq_true hb2
          cases hro : ro with
          | true => simp [hro, Chunk.ro] at e
          | false =>
            subst hro
            simp only [Chunk.ro, Bool.or_false, cond_false, Option.some.injEq, Prod.mk.injEq] at e
            obtain ⟨rfl, rfl⟩ := e
            have hus := SV.cells_ok hxs hx
            have hul := SV.vals_len hus
            have hvl := SV.vals_len hvs
            obtain ⟨w', arr', e1, e2, e3, e4, e5⟩ := run_storeList (P := P) p.b off u.cells.toList 0 arr ty fz w ho (by rw [hul]; omega) (hfz rfl) (SV.all_one hb3 hus)
            refine ⟨undef, w', ?_, ρ, Env.le.refl ρ, fun n hn => Or.inl hn, rfl, ?_⟩
            · have hcs : u.cells.size = i.size := by rw [← h1, ← hul]; simp
              simp only [Instr.storeAt, Instr.sureAddr, storeVar, Sem.run_bind, Sem.run_pure, Result.andThen_ok, run_sizeOf' hi, Place.addr, hcs, ne_eq, not_true_eq_false, if_false]
              rw [e1]
              rfl
            · refine hs.change (c' := .cells (splice l off xs) shut false) hc rfl hp e5.size e5.tape e5.os e5.output e5.heap rfl ⟨_, e2, arr', ty, fz, rfl, by rw [e3]; exact hsz, fun _ => by rw [e3]; exact hfz rfl, by rw [splice_len h2]; exact hlen, fun hsh => by rw [splice_len h2]; exact hshut hsh, _, splice_vals hvs hus, fun j y hj => ?_⟩
              rw [splice_get vs off _ (by rw [hul, hvl]; exact h2)] at hj
              rw [e4]
              simp only [Nat.add_zero]
              split
              · rename_i hcond
                rw [if_pos hcond] at hj
                exact hj
              · rename_i hcond
                rw [if_neg hcond] at hj
                exact hget j y hj
end
end Go.Proofs.YteecpkkgjioplaaDoor

/- Operations on abstract values: making, addresses, parts. -/
namespace Go.Proofs.YteecpkkgjioplaaDoor
open Go

section
variable {P : Program} {B : Base} {ρ : Env}

/-- A new row. -/
theorem OpOk.newCells {l : List SV} {vs : List Value} {sem : Sem Value} {mk : Nat → SV} {mkv : Nat → Value} (hl : SV.vals ρ l = some vs)
    (hrun : ∀ w, ∃ ty d, sem.run P w = .ok (mkv w.heap.size) (({ w with drawn := d } : World).alloc (.cells vs.toArray ty)))
    (hmk : ∀ (n : Nat) (ρ' : Env) (p : Place), ρ' n = some p → p.sz = vs.length → Env.le ρ ρ' → (mk n).val ρ' = some (mkv p.b)) :
    OpOk P B ρ (.new (.cells l true false) fun n => .ret (mk n)) sem := by
  intro s s' r w hf hs e
  simp only [MM.run, Chunk.ro, cond_false, Option.some.injEq, Prod.mk.injEq] at e
  obtain ⟨rfl, rfl⟩ := e
  obtain ⟨ty, d, hr⟩ := hrun w
  have hn : ρ s.nm = none := hf _ (Nat.le_refl _) (by simp)
  have hle := Env.le_add (p := ⟨w.heap.size, vs.length⟩) hn
  refine ⟨_, _, hr, ρ.add s.nm ⟨w.heap.size, vs.length⟩, hle, fun n h => ?_, hmk _ _ _ Env.add_self rfl hle, ?_⟩
  · by_cases e : n = s.nm
    · exact Or.inr (by simp [e])
    · exact Or.inl (by simpa [Env.add, e] using h)
  · refine (hs.drew d).new hn (sz := vs.length) ⟨vs.toArray, ty, (0, 0), rfl, by simp, fun _ i _ => by simp, by simp [SV.vals_len hl], fun _ => by simp [SV.vals_len hl], vs, SV.vals_le hle _ _ hl, fun i v h => by simpa using h⟩ rfl

/-- ALLOC, BOX. -/
def allocM (P : Program) (t : TypeId) : MM SV :=
  match P.info? t with
  | some i =>
    match i.zero with
    | some z => .new (.cells (z.cells.toList.map toSV1) true false) fun n => .ret (.ptr n 0)
    | none => .fail
  | none => .fail
theorem OpOk.fails {sem : Sem Value} : OpOk P B ρ .fail sem := by intro s s' r w _ _ e; simp [MM.run] at e
theorem alloc_ok {t : TypeId} : OpOk P B ρ (allocM P t) (Instr.alloc t true (.tuple #[])) := by
  unfold allocM
  cases hi : P.info? t with
  | none => exact OpOk.fails
  | some i =>
    cases hz : i.zero with
    | none => simp only [hz]; exact OpOk.fails
    | some z =>
      simp only [hz]
      refine OpOk.newCells (mkv := fun b => .pointer (some ⟨b, 0, none⟩)) (toSV1_vals ρ _) (fun w => ⟨t, w.drawn, ?_⟩) (fun n ρ' p hp _ _ => by simp [SV.val, hp, Place.addr])
      simp [Instr.alloc, run_zero' hi hz, newVar, newRow]
def boxM (x : SV) : MM SV :=
  match x.cells with
  | some l => .new (.cells l true false) fun n => .ret (.ptr n 0)
  | none => .fail
theorem box_ok {t : TypeId} {x : SV} {v : Value} (hx : x.val ρ = some v) : OpOk P B ρ (boxM x) (Instr.box t v) := by
  unfold boxM
  cases hl : x.cells with
  | none => exact OpOk.fails
  | some l =>
    refine OpOk.newCells (mkv := fun b => .pointer (some ⟨b, 0, none⟩)) (SV.cells_ok hl hx) (fun w => ⟨t, w.drawn, ?_⟩) (fun n ρ' p hp _ _ => by simp [SV.val, hp, Place.addr])
    simp [Instr.box, newVar, newRow]

/-- The cells of a row of zeros. -/
def zrow (zs : List SV) (n : Nat) : List SV := (List.range n).map fun i => (zs[i % zs.length]?).getD (.tup [])
theorem zrow_vals (z : Array Value) (n : Nat) (h : n = 0 ∨ 0 < z.size) : SV.vals ρ (zrow (z.toList.map toSV1) n) = some ((List.range n).map fun i => z[i % z.size]!) := by
  unfold zrow
  suffices ∀ l : List Nat, (l = [] ∨ 0 < z.size) → SV.vals ρ (l.map fun i => ((z.toList.map toSV1)[i % (z.toList.map toSV1).length]?).getD (.tup [])) = some (l.map fun i => z[i % z.size]!) by
    refine this _ ?_
    rcases h with h | h
    · left; simp [h]
    · exact Or.inr h
  intro l hl
  induction l with
  | nil => rfl
  | cons i l ih =>
    rcases hl with hl | hl
    · cases hl
    · refine SV.vals_mk ?_ (ih (Or.inr hl))
      have hlt : i % z.size < z.size := Nat.mod_lt _ hl
      simp [hlt, toSV1_val]

/-- Parts, put into a row of cells. -/
def fillS (place : Nat → Option (Nat × Nat)) (cells : List SV) : List (Nat × SV) → Option (List SV)
  | [] => some cells
  | (i, x) :: rest =>
    match place i, x.cells with
    | some (off, size), some xs => bif Nat.beq xs.length size && Nat.ble (off + xs.length) cells.length then fillS place (splice cells off xs) rest else none
    | _, _ => none
inductive Parts (ρ : Env) : List (Nat × SV) → List (Nat × Value) → Prop where
  | nil : Parts ρ [] []
  | cons {i : Nat} {x : SV} {v : Value} {l : List (Nat × SV)} {r : List (Nat × Value)} (h : x.val ρ = some v) (t : Parts ρ l r) : Parts ρ ((i, x) :: l) ((i, v) :: r)
theorem foldl_set (off : Nat) : ∀ (us : List Value) (j : Nat) (cs : Array Value), off + j + us.length ≤ cs.size →
    ((us.zipIdx j).foldl (fun cs (x : Value × Nat) => cs.setIfInBounds (off + x.2) x.1) cs).toList = cs.toList.take (off + j) ++ (us ++ cs.toList.drop (off + j + us.length))
  | [], j, cs, _ => by simp
  | u :: us, j, cs, h => by
    simp only [List.length_cons] at h
    simp only [List.zipIdx_cons, List.foldl_cons]
    rw [foldl_set off us (j + 1) _ (by simp; omega)]
    apply List.ext_getElem?
    intro k
    have h1 := splice_get (cs.setIfInBounds (off + j) u).toList (off + (j + 1)) us (by simp; omega) k
    have h2 := splice_get cs.toList (off + j) (u :: us) (by simp; omega) k
    rw [show off + j + (u :: us).length = off + j + (u :: us).length from rfl]
    rw [h1, h2]
    simp only [List.length_cons, Array.getElem?_toList]
    by_cases hk : k = off + j
    · subst hk
      rw [if_neg (by omega), if_pos (by omega)]
      have : off + j < cs.size := by omega
      simp [this]
    · by_cases hc : off + (j + 1) ≤ k ∧ k < off + (j + 1) + us.length
      · rw [if_pos hc, if_pos (by omega), show k - (off + j) = (k - (off + (j + 1))) + 1 by omega, List.getElem?_cons_succ]
      · rw [if_neg hc, if_neg (by omega), Array.getElem?_setIfInBounds_ne (by omega)]
theorem fill_ok {place : Nat → Option (Nat × Nat)} : ∀ {ps : List (Nat × SV)} {qs : List (Nat × Value)} (_ : Parts ρ ps qs) {cells out : List SV} {vs : List Value}, SV.vals ρ cells = some vs → fillS place cells ps = some out →
    ∃ us, Instr.fill place vs.toArray qs = some us ∧ SV.vals ρ out = some us.toList
  | _, _, .nil, cells, out, vs, hv, h => by
    simp only [fillS, Option.some.injEq] at h
    subst h
    exact ⟨_, rfl, by simpa using hv⟩
  | _, _, .cons (i := i) (x := x) (v := v) hx t, cells, out, vs, hv, h => by
    simp only [fillS] at h
    cases hp : place i with
    | none => simp [hp] at h
    | some os =>
      obtain ⟨off, size⟩ := os
      cases hc : x.cells with
      | none => simp [hp, hc] at h
      | some xs =>
        simp only [hp, hc] at h
        cases hb : (Nat.beq xs.length size && Nat.ble (off + xs.length) cells.length) with
        | false => simp [hb] at h
        | true =>
          simp only [hb, cond_true] at h
          simp only [Bool.and_eq_true] at hb
          have h1 := Nat.eq_of_beq_eq_true hb.1
          have h2 := Nat.le_of_ble_eq_true hb.2
          have hus := SV.cells_ok hc hx
          have hul := SV.vals_len hus
          have hvl := SV.vals_len hv
          simp only [Array.length_toList] at hul
          have hsp := splice_vals (off := off) hv hus
          obtain ⟨us, e1, e2⟩ := fill_ok t hsp h
          refine ⟨us, ?_, e2⟩
          simp only [Instr.fill, hp, List.size_toArray]
          rw [if_neg (by simp; omega)]
          have hf := foldl_set off v.cells.toList 0 vs.toArray (by simp; omega)
          simp only [Nat.add_zero] at hf
          have : (v.cells.zipIdx.foldl (fun cs (x : Value × Nat) => cs.setIfInBounds (off + x.2) x.1) vs.toArray) = (vs.take off ++ (v.cells.toList ++ vs.drop (off + v.cells.toList.length))).toArray := by
            apply Array.ext'
            rw [← Array.foldl_toList, Array.toList_zipIdx]
            exact hf
          rw [← e1, ← this]
end
end Go.Proofs.YteecpkkgjioplaaDoor

/- Operations on abstract values: composite values, addresses, parts, lengths. -/
namespace Go.Proofs.YteecpkkgjioplaaDoor
open Go

section
variable {P : Program} {B : Base} {ρ : Env}

def placesS (P : Program) : List Field → Option (List (Nat × Nat))
  | [] => some []
  | f :: r => match P.info? f.type, placesS P r with
    | some i, some l => some ((f.offset, i.size) :: l)
    | _, _ => none
theorem run_places : ∀ (fs : List Field) (l : List (Nat × Nat)) (w : World), placesS P fs = some l → ((fs.mapM fun f => (do pure (f.offset, ← sizeOf f.type) : Sem (Nat × Nat)))).run P w = .ok l w
  | [], l, w, h => by
    simp only [placesS, Option.some.injEq] at h
    subst h
    simp
  | f :: r, l, w, h => by
    simp only [placesS] at h
    cases hi : P.info? f.type with
    | none => simp [hi] at h
    | some i =>
      cases hr : placesS P r with
      | none => simp [hi, hr] at h
      | some m =>
        simp only [hi, hr, Option.some.injEq] at h
        subst h
        have ih := run_places r m w hr
        simp only [List.mapM_cons, Sem.run_bind, run_sizeOf' hi, Result.andThen_ok, Sem.run_pure, ih]

/-- BUILD. -/
def buildS (P : Program) (t : TypeId) (ps : List (Nat × SV)) : Option SV :=
  match P.info? t with
  | some i =>
    match i.zero, P.underlying t with
    | some z, some (.struct fs) =>
      match placesS P fs.toList with
      | some pl => (fillS (fun k => pl[k]?) (z.cells.toList.map toSV1) ps).map .agg
      | none => none
    | some z, some (.array _ e) =>
      match P.info? e with
      | some j => (fillS (fun k => some (k * j.size, j.size)) (z.cells.toList.map toSV1) ps).map .agg
      | none => none
    | _, _ => none
  | none => none
theorem build_ok {t : TypeId} {ps : List (Nat × SV)} {qs : List (Nat × Value)} (hp : Parts ρ ps qs) : OpOk P B ρ (MM.opt (buildS P t ps)) (Instr.build t qs.toArray) := by
  refine OpOk.pure fun r h => ?_
  unfold buildS at h
  cases hi : P.info? t with
  | none => simp [hi] at h
  | some i =>
    cases hz : i.zero with
    | none => simp [hi, hz] at h
    | some z =>
      simp only [hi, hz] at h
      cases hu : P.underlying t with
      | none => simp [hu] at h
      | some d =>
        simp only [hu] at h
        cases d <;> simp only [reduceCtorEq] at h
        case struct fs =>
          cases hpl : placesS P fs.toList with
          | none => simp [hpl] at h
          | some pl =>
            simp only [hpl, Option.map_eq_some_iff] at h
            obtain ⟨out, ho, rfl⟩ := h
            obtain ⟨us, e1, e2⟩ := fill_ok hp (toSV1_vals ρ _) ho
            refine ⟨.agg us, by simp [SV.val, e2], fun w => ?_⟩
            have hpr := run_places (P := P) fs.toList pl w hpl
            simp only [Instr.build, Sem.run_bind, run_zero' hi hz, Result.andThen_ok, run_underlying hu, Array.mapM_eq_mapM_toList, Sem.run_map, hpr]
            have e1' : Instr.fill (fun k => pl[k]?) z.cells qs = some us := by simpa using e1
            simp [e1']
        case array n e =>
          cases hj : P.info? e with
          | none => simp [hj] at h
          | some j =>
            simp only [hj, Option.map_eq_some_iff] at h
            obtain ⟨out, ho, rfl⟩ := h
            obtain ⟨us, e1, e2⟩ := fill_ok hp (toSV1_vals ρ _) ho
            refine ⟨.agg us, by simp [SV.val, e2], fun w => ?_⟩
            simp only [Instr.build, Sem.run_bind, run_zero' hi hz, Result.andThen_ok, run_underlying hu, run_sizeOf' hj]
            have e1' : Instr.fill (fun k => some (k * j.size, j.size)) z.cells qs = some us := by simpa using e1
            simp [e1']

/-- BUILD SLICE, MAKE SLICE. -/
def buildSliceM (P : Program) (t : TypeId) (len : Nat) (ps : List (Nat × SV)) : MM SV :=
  match P.underlying t with
  | some (.slice e) =>
    match P.info? e with
    | some j =>
      match j.zero with
      | some z =>
        bif Nat.ble (len * j.size) 16777216 && (Nat.beq (len * j.size) 0 || Nat.blt 0 z.cells.size) then
          match fillS (fun k => some (k * j.size, j.size)) (zrow (z.cells.toList.map toSV1) (len * j.size)) ps with
          | some l => .new (.cells l true false) fun n => .ret (.slc n j.size 0 len (some len))
          | none => .fail
        else .fail
      | none => .fail
    | none => .fail
  | _ => .fail
theorem buildSlice_ok {t : TypeId} {len : Nat} {ps : List (Nat × SV)} {qs : List (Nat × Value)} (hp : Parts ρ ps qs) : OpOk P B ρ (buildSliceM P t len ps) (Instr.buildSlice t len qs.toArray) := by
  unfold buildSliceM
  split
  · rename_i e hu
    cases hj : P.info? e with
    | none => exact OpOk.fails
    | some j =>
      cases hz : j.zero with
      | none => simp only [hz]; exact OpOk.fails
      | some z =>
        simp only [hz]
        cases hb : (Nat.ble (len * j.size) 16777216 && (Nat.beq (len * j.size) 0 || Nat.blt 0 z.cells.size)) with
        | false => exact OpOk.fails
        | true =>
          simp only [cond_true]
          simp only [Bool.and_eq_true, Bool.or_eq_true] at hb
          have h1 := Nat.le_of_ble_eq_true hb.1
          have h2 : len * j.size = 0 ∨ 0 < z.cells.size := hb.2.imp Nat.eq_of_beq_eq_true (fun h => by simpa [Nat.blt_eq] using h)
          cases hf : fillS (fun k => some (k * j.size, j.size)) (zrow (z.cells.toList.map toSV1) (len * j.size)) ps with
          | none => exact OpOk.fails
          | some l =>
            obtain ⟨us, e1, e2⟩ := fill_ok hp (zrow_vals z.cells (len * j.size) h2) hf
            refine OpOk.newCells (mkv := fun b => .slice (some ⟨b, 0, none⟩) len len) e2 (fun w => ⟨e, w.drawn, ?_⟩) (fun n ρ' p hp' _ _ => by simp [SV.val, hp', Place.addr])
            simp only [Instr.buildSlice, Sem.run_bind, run_underlying hu, Result.andThen_ok, run_sizeOf' hj]
            rw [if_neg (by omega)]
            have hcells : (Array.range (len * j.size)).map (fun x => z.cells[x % z.cells.size]!) = ((List.range (len * j.size)).map fun i => z.cells[i % z.cells.size]!).toArray := by
              apply Array.ext'; simp
            by_cases h0 : len * j.size = 0
            · rw [if_pos h0]
              simp only [h0, List.range_zero, List.map_nil] at e1
              have hr0 : ∀ f : Nat → Value, Array.map f (Array.range 0) = #[] := fun f => by apply Array.ext'; simp
              simp [h0, hr0, e1, newRow]
            · rw [if_neg h0]
              simp only [Sem.run_bind, run_zero' hj hz, Result.andThen_ok, Sem.run_pure, hcells, e1]
              simp [newRow]
  · exact OpOk.fails

/-- ADDRESSES. -/
def fieldAtS (P : Program) (t : TypeId) (x : SV) (f : Nat) : Option SV :=
  match P.underlying t, x with
  | some (.struct fs), .ptr n off =>
    match fs[f]? with
    | some fd =>
      match P.info? fd.type with
      | some i => bif Nat.beq i.size 0 then none else some (.ptr n (off + fd.offset))
      | none => none
    | none => none
  | _, _ => none
theorem fieldAt_ok {t : TypeId} {x : SV} {v : Value} {f : Nat} (hx : x.val ρ = some v) : OpOk P B ρ (MM.opt (fieldAtS P t x f)) (Instr.fieldAt t v f) := by
  refine OpOk.pure fun r h => ?_
  unfold fieldAtS at h
  split at h
  · rename_i fs n off hu
    cases hf : fs[f]? with
    | none => simp [hf] at h
    | some fd =>
      cases hi : P.info? fd.type with
      | none => simp [hf, hi] at h
      | some i =>
        simp only [hf, hi] at h
        cases hb : Nat.beq i.size 0 with
        | true => simp [hb] at h
        | false =>
          simp only [hb, cond_false, Option.some.injEq] at h
          subst h
          simp only [SV.val, Option.map_eq_some_iff] at hx
          obtain ⟨p, hp, rfl⟩ := hx
          refine ⟨.pointer (some (p.addr (off + fd.offset))), by simp [SV.val, hp], fun w => ?_⟩
          have h0 : ¬ i.size = 0 := Nat.ne_of_beq_eq_false hb
          simp [Instr.fieldAt, run_underlying hu, hf, Instr.sureAddr, fieldPlace, run_sizeOf' hi, h0, Place.addr, add_eq]
  · cases h

def partS (P : Program) (t : TypeId) (l : List SV) (off : Nat) : Option SV :=
  match P.underlying t, P.info? t with
  | some _, some i => bif tyAgg P t then (bif Nat.ble (off + i.size) l.length then some (.agg ((l.drop off).take i.size)) else none) else l[off]?
  | _, _ => none
theorem part_ok {t : TypeId} {l : List SV} {vs : List Value} {off : Nat} {r : SV} (hl : SV.vals ρ l = some vs) (h : partS P t l off = some r) : ∃ v, r.val ρ = some v ∧ ∀ w, (part t vs.toArray off).run P w = .ok v w := by
  unfold partS at h
  cases hu : P.underlying t with
  | none => simp [hu] at h
  | some d =>
    cases hi : P.info? t with
    | none => simp [hu, hi] at h
    | some i =>
      simp only [hu, hi] at h
      cases ha : tyAgg P t with
      | true =>
        simp only [ha, cond_true] at h
        cases hb : Nat.ble (off + i.size) l.length with
        | false => simp [hb] at h
        | true =>
          simp only [hb, cond_true, Option.some.injEq] at h
          subst h
          refine ⟨.agg ((vs.drop off).take i.size).toArray, by simp [SV.val, SV.vals_take _ (SV.vals_drop _ hl)], fun w => ?_⟩
          simp [part, run_isAgg hu, ha, run_sizeOf' hi]
      | false =>
        simp only [ha, cond_false] at h
        obtain ⟨v, hv, hr⟩ := SV.vals_get hl h
        exact ⟨v, hr, fun w => by simp [part, run_isAgg hu, ha, hv]⟩

def fieldS (P : Program) (t : TypeId) (x : SV) (f : Nat) : Option SV :=
  match P.underlying t, x with
  | some (.struct fs), .agg l =>
    match fs[f]? with
    | some fd => partS P fd.type l fd.offset
    | none => none
  | _, _ => none
theorem field_ok {t : TypeId} {x : SV} {v : Value} {f : Nat} (hx : x.val ρ = some v) : OpOk P B ρ (MM.opt (fieldS P t x f)) (Instr.field t v f) := by
  refine OpOk.pure fun r h => ?_
  unfold fieldS at h
  split at h
  · rename_i fs l hu
    cases hf : fs[f]? with
    | none => simp [hf] at h
    | some fd =>
      simp only [hf] at h
      simp only [SV.val, Option.map_eq_some_iff] at hx
      obtain ⟨vs, hvs, rfl⟩ := hx
      obtain ⟨u, h1, h2⟩ := part_ok hvs h
      exact ⟨u, h1, fun w => by simp [Instr.field, run_underlying hu, hf, asAgg, h2]⟩
  · cases h

/-- Is an index in its bounds? -/
def inB (i : Int) (n : Nat) : Bool := decide (0 ≤ i) && decide (i < n)
def indexAtS (P : Program) (t : TypeId) (x ix : SV) : Option SV :=
  match P.underlying t, x, ix with
  | some (.array len e), .ptr n off, .int _ i =>
    match P.info? e with
    | some j => bif inB i len then some (.ptr n (off + i.toNat * j.size)) else none
    | none => none
  | some (.slice e), .slc n _ off len _, .int _ i =>
    match P.info? e with
    | some j => bif inB i len then some (.ptr n (off + i.toNat * j.size)) else none
    | none => none
  | _, _, _ => none
theorem indexAt_ok {t : TypeId} {x ix : SV} {v u : Value} (hx : x.val ρ = some v) (hi : ix.val ρ = some u) : OpOk P B ρ (MM.opt (indexAtS P t x ix)) (Instr.indexAt t v u) := by
  refine OpOk.pure fun r h => ?_
  unfold indexAtS at h
  split at h
  · rename_i len e n off k i hu
    cases hj : P.info? e with
    | none => simp [hj] at h
    | some j =>
      simp only [hj] at h
      cases hb : inB i len with
      | false => simp [hb] at h
      | true =>
        simp only [hb, cond_true, Option.some.injEq] at h
        subst h
        simp only [SV.val, Option.map_eq_some_iff, Option.some.injEq] at hx hi
        obtain ⟨p, hp, rfl⟩ := hx
        subst hi
        simp only [inB, Bool.and_eq_true, decide_eq_true_eq] at hb
        refine ⟨.pointer (some (p.addr (off + i.toNat * j.size))), by simp [SV.val, hp], fun w => ?_⟩
        simp [Instr.indexAt, asIntOf, run_underlying hu, Instr.sureAddr, hb.1, hb.2, run_sizeOf' hj, Place.addr, add_eq]
  · rename_i e n esz off len cap k i hu
    cases hj : P.info? e with
    | none => simp [hj] at h
    | some j =>
      simp only [hj] at h
      cases hb : inB i len with
      | false => simp [hb] at h
      | true =>
        simp only [hb, cond_true, Option.some.injEq] at h
        subst h
        simp only [SV.val, Option.map_eq_some_iff, Option.some.injEq] at hx hi
        obtain ⟨p, hp, rfl⟩ := hx
        subst hi
        simp only [inB, Bool.and_eq_true, decide_eq_true_eq] at hb
        refine ⟨.pointer (some (p.addr (off + i.toNat * j.size))), by simp [SV.val, hp], fun w => ?_⟩
        simp [Instr.indexAt, asIntOf, run_underlying hu, Instr.sureAddr, hb.1, hb.2, run_sizeOf' hj, Place.addr, add_eq]
  · cases h
def indexS (P : Program) (t : TypeId) (x ix : SV) : Option SV :=
  match P.underlying t, x, ix with
  | some (.array len e), .agg l, .int _ i =>
    match P.info? e with
    | some j => bif inB i len then partS P e l (i.toNat * j.size) else none
    | none => none
  | some .string, .str l, .int _ i => bif decide (0 ≤ i) then (l[i.toNat]?).map fun b => .int .u8 ((b % 256 : Nat) : Int) else none
  | _, _, _ => none
theorem index_ok {t : TypeId} {x ix : SV} {v u : Value} (hx : x.val ρ = some v) (hi : ix.val ρ = some u) : OpOk P B ρ (MM.opt (indexS P t x ix)) (Instr.index t v u) := by
  refine OpOk.pure fun r h => ?_
  unfold indexS at h
  split at h
  · rename_i len e l k i hu
    cases hj : P.info? e with
    | none => simp [hj] at h
    | some j =>
      simp only [hj] at h
      cases hb : inB i len with
      | false => simp [hb] at h
      | true =>
        simp only [hb, cond_true] at h
        simp only [SV.val, Option.map_eq_some_iff, Option.some.injEq] at hx hi
        obtain ⟨vs, hvs, rfl⟩ := hx
        subst hi
        simp only [inB, Bool.and_eq_true, decide_eq_true_eq] at hb
        obtain ⟨y, h1, h2⟩ := part_ok hvs h
        refine ⟨y, h1, fun w => ?_⟩
        simp [Instr.index, asIntOf, run_underlying hu, hb.1, hb.2, run_sizeOf' hj, h2]
  · rename_i l k i hu
    cases hb : decide (0 ≤ i) with
    | false => simp [hb] at h
    | true =>
      simp only [hb, cond_true, Option.map_eq_some_iff] at h
      obtain ⟨b, hb', rfl⟩ := h
      simp only [SV.val, Option.some.injEq] at hx hi
      subst hx
      subst hi
      have h0 : 0 ≤ i := by simpa using hb
      have hg : (bytesOf l)[i.toNat]? = some (UInt8.ofNat b) := by
        have hlt : i.toNat < l.length := (List.getElem?_eq_some_iff.1 hb').1
        have hsz : i.toNat < (bytesOf l).size := by simp [bytesOf, ByteArray.size, hlt]
        rw [getElem?_pos (bytesOf l) i.toNat hsz]
        have : l[i.toNat] = b := (List.getElem?_eq_some_iff.1 hb').2
        simp [bytesOf, ByteArray.getElem_eq_getElem_data, this]
      refine ⟨_, rfl, fun w => ?_⟩
      simp [Instr.index, asIntOf, run_underlying hu, h0, hg]
  · cases h

def extractS (x : SV) (k : Nat) : Option SV := match x with | .tup l => l[k]? | _ => none
theorem extract_ok {x : SV} {v : Value} {k : Nat} (hx : x.val ρ = some v) : OpOk P B ρ (MM.opt (extractS x k)) (Instr.extract v k) := by
  refine OpOk.pure fun r h => ?_
  cases x <;> simp only [extractS, reduceCtorEq] at h
  simp only [SV.val, Option.map_eq_some_iff] at hx
  obtain ⟨vs, hvs, rfl⟩ := hx
  obtain ⟨u, h1, h2⟩ := SV.vals_get hvs h
  exact ⟨u, h2, fun w => by simp [Instr.extract, h1]⟩
end
end Go.Proofs.YteecpkkgjioplaaDoor

/- Operations on abstract values: equality. -/
namespace Go.Proofs.YteecpkkgjioplaaDoor
open Go

section
variable {P : Program} {B : Base} {ρ : Env}

theorem addr_beq (b o q : Nat) : ((⟨b, o, none⟩ : Addr) == ⟨b, q, none⟩) = decide (o = q) := by
  rw [Bool.eq_iff_iff]; simp
def eqBytes : List Nat → List Nat → Bool
  | [], [] => true
  | a :: l, b :: m => Nat.beq (a % 256) (b % 256) && eqBytes l m
  | _, _ => false
theorem eqBytes_iff : ∀ l m : List Nat, eqBytes l m = true ↔ l.map UInt8.ofNat = m.map UInt8.ofNat
  | [], [] => by simp [eqBytes]
  | [], b :: m => by simp [eqBytes]
  | a :: l, [] => by simp [eqBytes]
  | a :: l, b :: m => by
    have hh : UInt8.ofNat a = UInt8.ofNat b ↔ a % 256 = b % 256 := by
      constructor
      · intro e
        have := congrArg UInt8.toNat e
        simpa using this
      · intro e
        apply UInt8.toNat.inj
        simpa using e
    simp only [eqBytes, Bool.and_eq_true, Nat.beq_eq, eqBytes_iff l m, List.map_cons, List.cons.injEq, hh]
theorem eqBytes_ok (l m : List Nat) : ((bytesOf l).toList == (bytesOf m).toList) = eqBytes l m := by
  rw [ByteArray.toList_eq, ByteArray.toList_eq, Bool.eq_iff_iff, eqBytes_iff]
  simp [bytesOf]

def eqFs (P : Program) (rec : TypeId → SV → SV → Option Bool) (xs ys : List SV) : List Field → Option Bool
  | [] => some true
  | f :: fs =>
    if f.name ≠ "_" then
      match partS P f.type xs f.offset, partS P f.type ys f.offset with
      | some a, some b =>
        match rec f.type a b with
        | some true => eqFs P rec xs ys fs
        | r => r
      | _, _ => none
    else eqFs P rec xs ys fs
def eqIs (P : Program) (rec : SV → SV → Option Bool) (e : TypeId) (c : Nat) (xs ys : List SV) : List Nat → Option Bool
  | [] => some true
  | i :: is =>
    match partS P e xs (i * c), partS P e ys (i * c) with
    | some a, some b =>
      match rec a b with
      | some true => eqIs P rec e c xs ys is
      | r => r
    | _, _ => none
/-- '==' on values; of two pointers that aren't nil nothing is said here. -/
def eqS (P : Program) : Nat → TypeId → SV → SV → Option Bool
  | 0, _, _, _ => none
  | d + 1, t, x, y =>
    match P.underlying t with
    | some .bool => match x, y with | .bool a, .bool b => some (a == b) | _, _ => none
    | some (.int _) => match x, y with | .int k a, .int k' b => (if k = k' then some (a == b) else none) | _, _ => none
    | some .string => match x, y with | .str a, .str b => some (eqBytes a b) | _, _ => none
    | some (.pointer e) => match x, y with
      | .nilp, .nilp => some true
      | .nilp, .ptr _ _ => some false
      | .ptr _ _, .nilp => some false
      | .ptr n o, .ptr m q => if n = m then (match P.info? e with | some i => (if i.size = 0 then none else some (decide (o = q))) | none => none) else none
      | _, _ => none
    | some (.slice _) => match x, y with
      | .nils, .nils => some true
      | .nils, .slc _ _ _ _ _ => some false
      | .nils, .slz _ _ _ _ => some false
      | .slc _ _ _ _ _, .nils => some false
      | .slz _ _ _ _, .nils => some false
      | _, _ => none
    | some (.map _ _) => match x, y with
      | .nilm, .nilm => some true
      | .nilm, .mp _ => some false
      | .mp _, .nilm => some false
      | _, _ => none
    | some (.func _ _ _) => match x, y with
      | .nilf, .nilf => some true
      | .nilf, .fn _ _ _ => some false
      | .fn _ _ _, .nilf => some false
      | _, _ => none
    | some (.interface _) => match x, y with
      | .nili, .nili => some true
      | .nili, .ifc _ _ => some false
      | .ifc _ _, .nili => some false
      | .ifc tx vx, .ifc ty vy => if tx = ty then (match P.info? tx with | some i => (if i.comparable = true then eqS P d tx vx vy else none) | none => none) else some false
      | _, _ => none
    | some (.struct fs) => match x, y with
      | .agg xs, .agg ys => (if P.stoodInHeld t = false then eqFs P (eqS P d) xs ys fs.toList else none)
      | _, _ => none
    | some (.array n e) => match x, y with
      | .agg xs, .agg ys => (if (P.info? e).isSome = true then eqIs P (eqS P d e) e (P.cellsOf e) xs ys (List.range n) else none)
      | _, _ => none
    | _ => none

theorem eqFs_ok {d : Nat} (ih : ∀ (t : TypeId) (x y : SV) (b : Bool) (v u : Value), eqS P d t x y = some b → x.val ρ = some v → y.val ρ = some u → ∀ w, (Op.equalIn d t v u).run P w = .ok b w)
    {xs ys : List SV} {vs us : List Value} (hv : SV.vals ρ xs = some vs) (hu : SV.vals ρ ys = some us) (w : World) : ∀ (fs : List Field) (b : Bool), eqFs P (eqS P d) xs ys fs = some b → (Op.eqFields d vs.toArray us.toArray fs).run P w = .ok b w
  | [], b, h => by
    simp only [eqFs, Option.some.injEq] at h
    subst h
    simp [Op.eqFields]
  | f :: fs, b, h => by
    simp only [eqFs] at h
    simp only [Op.eqFields, Sem.run_ite]
    split
    · rename_i hn
      rw [if_pos hn] at h
      cases ha : partS P f.type xs f.offset with
      | none => simp [ha] at h
      | some a =>
        cases hb : partS P f.type ys f.offset with
        | none => simp [ha, hb] at h
        | some c =>
          simp only [ha, hb] at h
          obtain ⟨va, a1, a2⟩ := part_ok hv ha
          obtain ⟨vc, c1, c2⟩ := part_ok hu hb
          cases hr : eqS P d f.type a c with
          | none => simp [hr] at h
          | some r =>
            have h3 := ih f.type a c r va vc hr a1 c1 w
            simp only [hr] at h
            simp only [Sem.run_bind, a2, c2, h3, Result.andThen_ok]
            cases r
            · simp only [Option.some.injEq] at h
              subst h
              simp
            · simp only at h
              simpa using eqFs_ok ih hv hu w fs b h
    · rename_i hn
      rw [if_neg hn] at h
      exact eqFs_ok ih hv hu w fs b h
theorem eqIs_ok {d : Nat} {e : TypeId} {c : Nat} (ih : ∀ (x y : SV) (b : Bool) (v u : Value), eqS P d e x y = some b → x.val ρ = some v → y.val ρ = some u → ∀ w, (Op.equalIn d e v u).run P w = .ok b w)
    {xs ys : List SV} {vs us : List Value} (hv : SV.vals ρ xs = some vs) (hu : SV.vals ρ ys = some us) (w : World) : ∀ (is : List Nat) (b : Bool), eqIs P (eqS P d e) e c xs ys is = some b → (Op.eqItems d e c vs.toArray us.toArray is).run P w = .ok b w
  | [], b, h => by
    simp only [eqIs, Option.some.injEq] at h
    subst h
    simp [Op.eqItems]
  | i :: is, b, h => by
    simp only [eqIs] at h
    cases ha : partS P e xs (i * c) with
    | none => simp [ha] at h
    | some a =>
      cases hb : partS P e ys (i * c) with
      | none => simp [ha, hb] at h
      | some q =>
        simp only [ha, hb] at h
        obtain ⟨va, a1, a2⟩ := part_ok hv ha
        obtain ⟨vc, c1, c2⟩ := part_ok hu hb
        cases hr : eqS P d e a q with
        | none => simp [hr] at h
        | some r =>
          have h3 := ih a q r va vc hr a1 c1 w
          simp only [hr] at h
          simp only [Op.eqItems, Sem.run_bind, a2, c2, h3, Result.andThen_ok]
          cases r
          · simp only [Option.some.injEq] at h
            subst h
            simp
          · simp only at h
            simpa using eqIs_ok ih hv hu w is b h

set_option maxHeartbeats 1000000 in
theorem eqS_ok : ∀ (d : Nat) (t : TypeId) (x y : SV) (b : Bool) (v u : Value), eqS P d t x y = some b → x.val ρ = some v → y.val ρ = some u → ∀ w, (Op.equalIn d t v u).run P w = .ok b w
  | 0, t, x, y, b, v, u, h, _, _, w => by simp [eqS] at h
  | d + 1, t, x, y, b, v, u, h, hv, hu, w => by
    simp only [eqS] at h
    cases ht : P.underlying t with
    | none => simp [ht] at h
    | some td =>
      simp only [ht] at h
      cases td <;> simp only [reduceCtorEq] at h
      case bool =>
        split at h
        · simp only [SV.val, Option.some.injEq] at h hv hu; subst h; subst hv; subst hu
          simp [Op.equalIn, run_underlying ht]
        · cases h
      case int k0 =>
        split at h
        · split at h
          · rename_i e
            subst e
            simp only [SV.val, Option.some.injEq] at h hv hu; subst h; subst hv; subst hu
            simp [Op.equalIn, run_underlying ht]
          · cases h
        · cases h
      case string =>
        split at h
        · simp only [SV.val, Option.some.injEq] at h hv hu; subst h; subst hv; subst hu
          rw [run_equalIn_string w d t _ _ ht, eqBytes_ok]
        · cases h
      case pointer e =>
        split at h
        · cases h; simp only [SV.val, Option.some.injEq, Option.map_eq_some_iff] at hv hu; subst hv; subst hu; simp [Op.equalIn, run_underlying ht]
        · cases h; simp only [SV.val, Option.some.injEq, Option.map_eq_some_iff] at hv hu; obtain ⟨p, _, rfl⟩ := hu; subst hv; simp [Op.equalIn, run_underlying ht]
        · cases h; simp only [SV.val, Option.some.injEq, Option.map_eq_some_iff] at hv hu; obtain ⟨p, _, rfl⟩ := hv; subst hu; simp [Op.equalIn, run_underlying ht]
        · rename_i n o m q
          split at h
          · rename_i e0
            subst e0
            cases hi : P.info? e with
            | none => simp [hi] at h
            | some i =>
              simp only [hi] at h
              split at h
              · cases h
              · rename_i hsz
                simp only [Option.some.injEq] at h
                subst h
                simp only [SV.val, Option.some.injEq, Option.map_eq_some_iff] at hv hu
                obtain ⟨p, hp, rfl⟩ := hv
                obtain ⟨p', hp', rfl⟩ := hu
                rw [hp] at hp'
                obtain rfl := Option.some.inj hp'
                simp [Op.equalIn, run_underlying ht, run_sizeOf' hi, hsz, sameAddr, Place.addr, addr_beq]
          · cases h
        · cases h
      case slice e =>
        split at h
        all_goals try cases h
        all_goals
          simp only [SV.val, Option.some.injEq, Option.map_eq_some_iff] at hv hu
        · subst hv; subst hu; simp [Op.equalIn, run_underlying ht]
        · obtain ⟨p, _, rfl⟩ := hu; subst hv; simp [Op.equalIn, run_underlying ht]
        · obtain ⟨p, _, rfl⟩ := hu; subst hv; simp [Op.equalIn, run_underlying ht]
        · obtain ⟨p, _, rfl⟩ := hv; subst hu; simp [Op.equalIn, run_underlying ht]
        · obtain ⟨p, _, rfl⟩ := hv; subst hu; simp [Op.equalIn, run_underlying ht]
      case map k e =>
        split at h
        all_goals try cases h
        all_goals
          simp only [SV.val, Option.some.injEq, Option.map_eq_some_iff] at hv hu
        · subst hv; subst hu; simp [Op.equalIn, run_underlying ht]
        · obtain ⟨p, _, rfl⟩ := hu; subst hv; simp [Op.equalIn, run_underlying ht]
        · obtain ⟨p, _, rfl⟩ := hv; subst hu; simp [Op.equalIn, run_underlying ht]
      case func ps rs vr =>
        split at h
        all_goals try cases h
        · simp only [SV.val, Option.some.injEq] at hv hu
          subst hv; subst hu; simp [Op.equalIn, run_underlying ht]
        · rename_i f a c
          simp only [SV.val, Option.some.injEq] at hv hu
          cases ha : SV.vals ρ a <;> cases hc : SV.vals ρ c <;> simp [ha, hc] at hu
          subst hv; subst hu; simp [Op.equalIn, run_underlying ht]
        · rename_i f a c
          simp only [SV.val, Option.some.injEq] at hv hu
          cases ha : SV.vals ρ a <;> cases hc : SV.vals ρ c <;> simp [ha, hc] at hv
          subst hv; subst hu; simp [Op.equalIn, run_underlying ht]
      case interface ms =>
        split at h
        · cases h; simp only [SV.val, Option.some.injEq] at hv hu; subst hv; subst hu; simp [Op.equalIn, run_underlying ht]
        · cases h; simp only [SV.val, Option.some.injEq, Option.map_eq_some_iff] at hv hu; obtain ⟨p, _, rfl⟩ := hu; subst hv; simp [Op.equalIn, run_underlying ht]
        · cases h; simp only [SV.val, Option.some.injEq, Option.map_eq_some_iff] at hv hu; obtain ⟨p, _, rfl⟩ := hv; subst hu; simp [Op.equalIn, run_underlying ht]
        · rename_i tx vx ty vy
          simp only [SV.val, Option.map_eq_some_iff] at hv hu
          obtain ⟨p, hp, rfl⟩ := hv
          obtain ⟨q, hq, rfl⟩ := hu
          split at h
          · rename_i e
            subst e
            cases hi : P.info? tx with
            | none => simp [hi] at h
            | some i =>
              simp only [hi] at h
              split at h
              · rename_i hc
                have := eqS_ok d tx vx vy b p q h hp hq w
                simp [Op.equalIn, run_underlying ht, run_typeInfo' hi, hc, this]
              · cases h
          · rename_i hne
            simp only [Option.some.injEq] at h
            subst h
            simp [Op.equalIn, run_underlying ht, hne]
        · cases h
      case struct fs =>
        split at h
        · rename_i xs ys
          split at h
          · rename_i hst
            simp only [SV.val, Option.map_eq_some_iff] at hv hu
            obtain ⟨vs, hvs, rfl⟩ := hv
            obtain ⟨us, hus, rfl⟩ := hu
            have hf : P.fieldsOf t = fs := by simp [Program.fieldsOf, ht]
            rw [run_equalIn_struct w d t _ _ (by rw [hf]; exact ht) hst, hf]
            exact eqFs_ok (fun t x y b v u => eqS_ok d t x y b v u) hvs hus w _ _ h
          · cases h
        · cases h
      case array n e =>
        split at h
        · rename_i xs ys
          split at h
          · rename_i hsm
            obtain ⟨i, hi⟩ := Option.isSome_iff_exists.1 hsm
            simp only [SV.val, Option.map_eq_some_iff] at hv hu
            obtain ⟨vs, hvs, rfl⟩ := hv
            obtain ⟨us, hus, rfl⟩ := hu
            rw [run_equalIn_array w d _ _ ht hi]
            exact eqIs_ok (fun x y b v u => eqS_ok d e x y b v u) hvs hus w _ _ h
          · cases h
        · cases h
end
end Go.Proofs.YteecpkkgjioplaaDoor

/- Operations on abstract values: numbers, strings, conversions, lengths. -/
namespace Go.Proofs.YteecpkkgjioplaaDoor
open Go

section
variable {P : Program} {B : Base} {ρ : Env}

def ltBytes : List Nat → List Nat → Bool
  | _, [] => false
  | [], _ :: _ => true
  | a :: l, b :: m => Nat.blt (a % 256) (b % 256) || (Nat.beq (a % 256) (b % 256) && ltBytes l m)
theorem ltBytes_ok : ∀ l m : List Nat, Op.bytesLess (l.map UInt8.ofNat) (m.map UInt8.ofNat) = ltBytes l m
  | [], [] => by simp [Op.bytesLess, ltBytes]
  | [], b :: m => by simp [Op.bytesLess, ltBytes]
  | a :: l, [] => by simp [Op.bytesLess, ltBytes]
  | a :: l, b :: m => by
    have h1 : decide (UInt8.ofNat a < UInt8.ofNat b) = Nat.blt (a % 256) (b % 256) := by
      rw [Bool.eq_iff_iff, decide_eq_true_eq, Nat.blt_eq, UInt8.lt_iff_toNat_lt]; simp
    have h2 : (UInt8.ofNat a == UInt8.ofNat b) = Nat.beq (a % 256) (b % 256) := by
      rw [Bool.eq_iff_iff, Nat.beq_eq, beq_iff_eq]
      constructor
      · intro e
        have := congrArg UInt8.toNat e
        simpa using this
      · intro e
        apply UInt8.toNat.inj
        simpa using e
    simp only [List.map_cons, Op.bytesLess, ltBytes, h1, h2, ltBytes_ok l m]
theorem bytesOf_list (l : List Nat) : (bytesOf l).toList = l.map UInt8.ofNat := by
  rw [ByteArray.toList_eq]; simp [bytesOf]
theorem bytesOf_app (l m : List Nat) : bytesOf l ++ bytesOf m = bytesOf (l ++ m) := by
  unfold bytesOf
  apply ByteArray.ext
  simp
theorem bytesOf_size (l : List Nat) : (bytesOf l).size = l.length := by simp [bytesOf, ByteArray.size]

def intS (op : BinOp) (k : IntKind) (a b : Int) : Option SV :=
  match op with
  | .add => some (.int k (k.wrap (a + b)))
  | .sub => some (.int k (k.wrap (a - b)))
  | .mul => some (.int k (k.wrap (a * b)))
  | .quo => if b = 0 then none else some (.int k (k.wrap (a.tdiv b)))
  | .rem => if b = 0 then none else some (.int k (a.tmod b))
  | .and => some (.int k (k.wrap ((BitVec.ofInt k.bits a &&& BitVec.ofInt k.bits b).toNat : Int)))
  | .or => some (.int k (k.wrap ((BitVec.ofInt k.bits a ||| BitVec.ofInt k.bits b).toNat : Int)))
  | .xor => some (.int k (k.wrap ((BitVec.ofInt k.bits a ^^^ BitVec.ofInt k.bits b).toNat : Int)))
  | .andNot => some (.int k (k.wrap ((BitVec.ofInt k.bits a &&& ~~~BitVec.ofInt k.bits b).toNat : Int)))
  | .shl => if b < 0 then none else some (.int k (k.wrap (a * 2 ^ (min b.toNat k.bits))))
  | .shr => if b < 0 then none else some (.int k (a.fdiv (2 ^ (min b.toNat k.bits))))
  | .eql => some (.bool (a == b))
  | .neq => some (.bool (a != b))
  | .lss => some (.bool (decide (a < b)))
  | .leq => some (.bool (decide (a ≤ b)))
  | .gtr => some (.bool (decide (a > b)))
  | .geq => some (.bool (decide (a ≥ b)))
def isShift : BinOp → Bool
  | .shl | .shr => true
  | _ => false
def strS (op : BinOp) (a b : List Nat) : Option SV :=
  match op with
  | .add => bif Nat.ble (a.length + b.length) 9223372036854775807 then some (.str (a ++ b)) else none
  | .eql => some (.bool (eqBytes a b))
  | .neq => some (.bool (!eqBytes a b))
  | .lss => some (.bool (ltBytes a b))
  | .leq => some (.bool (ltBytes a b || eqBytes a b))
  | .gtr => some (.bool (!(ltBytes a b || eqBytes a b)))
  | .geq => some (.bool (!ltBytes a b))
  | _ => none
def binS (P : Program) (op : BinOp) (t : TypeId) (cst : Bool) (x y : SV) : Option SV :=
  match x, y with
  | .int k a, .int k' b => (if isShift op = true ∨ k = k' then intS op k a b else none)
  | .str a, .str b => strS op a b
  | .nili, .nili =>
    (if cst = true then
      match op with
      | .eql => (eqS P Op.maxDepth t .nili .nili).map .bool
      | .neq => (eqS P Op.maxDepth t .nili .nili).map fun r => .bool (!r)
      | _ => none
    else none)
  | .raw _, _ => none
  | _, .raw _ => none
  | .agg a, .agg b =>
    (if P.eqGuardType P.depth t = true then none else
    match op with
    | .eql => (eqS P Op.maxDepth t (.agg a) (.agg b)).map .bool
    | .neq => (eqS P Op.maxDepth t (.agg a) (.agg b)).map fun r => .bool (!r)
    | _ => none)
  | x, y =>
    match op with
    | .eql => (eqS P Op.maxDepth t x y).map .bool
    | .neq => (eqS P Op.maxDepth t x y).map fun r => .bool (!r)
    | _ => none

theorem int_ok {op : BinOp} {t : TypeId} {k k' : IntKind} {a b : Int} {r : SV} (hk : isShift op = true ∨ k = k') (h : intS op k a b = some r) (X Y : Operand) :
    ∃ v, r.val ρ = some v ∧ ∀ w, (do eqGuard op t X Y (.int k a) (.int k' b); binOp op t (.int k a) (.int k' b) : Sem Value).run P w = .ok v w := by
  have hg : eqGuard op t X Y (.int k a) (.int k' b) = pure () := by cases op <;> simp [eqGuard]
  simp only [hg, pure_bind]
  by_cases hsh : isShift op = true
  · cases op <;> simp [isShift] at hsh
    all_goals
      simp only [intS] at h
      split at h
      · cases h
      · rename_i hb
        simp only [Option.some.injEq] at h
        subst h
        refine ⟨_, rfl, fun w => ?_⟩
        simp [binOp, Op.shift, hb]
  · have hkk : k = k' := hk.resolve_left hsh
    subst hkk
    cases op <;> simp [isShift] at hsh
    case quo =>
      simp only [intS] at h
      split at h
      · cases h
      · rename_i hb
        simp only [Option.some.injEq] at h
        subst h
        exact ⟨_, rfl, fun w => by simp [binOp, Op.intDiv, hb]⟩
    case rem =>
      simp only [intS] at h
      split at h
      · cases h
      · rename_i hb
        simp only [Option.some.injEq] at h
        subst h
        exact ⟨_, rfl, fun w => by simp [binOp, Op.intDiv, hb]⟩
    all_goals
      simp only [intS, Option.some.injEq] at h
      subst h
      exact ⟨_, rfl, fun w => by simp [binOp, Op.intArith, Op.intBits, Op.intCmp]⟩
theorem str_ok {op : BinOp} {t : TypeId} {a b : List Nat} {r : SV} (h : strS op a b = some r) (X Y : Operand) :
    ∃ v, r.val ρ = some v ∧ ∀ w, (do eqGuard op t X Y (.string (bytesOf a)) (.string (bytesOf b)); binOp op t (.string (bytesOf a)) (.string (bytesOf b)) : Sem Value).run P w = .ok v w := by
  have hg : eqGuard op t X Y (.string (bytesOf a)) (.string (bytesOf b)) = pure () := by cases op <;> simp [eqGuard]
  simp only [hg, pure_bind]
  have h1 := eqBytes_ok a b
  have h2 : Op.bytesLess (bytesOf a).toList (bytesOf b).toList = ltBytes a b := by rw [bytesOf_list, bytesOf_list, ltBytes_ok]
  cases op <;> simp only [strS, Option.some.injEq, reduceCtorEq] at h
  case add =>
    cases hb : Nat.ble (a.length + b.length) 9223372036854775807 with
    | false => simp [hb] at h
    | true =>
      simp only [hb, cond_true, Option.some.injEq] at h
      subst h
      have := Nat.le_of_ble_eq_true hb
      refine ⟨_, rfl, fun w => ?_⟩
      simp only [binOp, Op.stringOp, bytesOf_size]
      rw [if_neg (by simp [IntKind.max, IntKind.signed, IntKind.bits]; omega)]
      simp [bytesOf_app]
  all_goals
    subst h
    exact ⟨_, rfl, fun w => by simp [binOp, Op.stringOp, h1, h2]⟩
theorem eqG_ok {op : BinOp} {t : TypeId} {x y : SV} {r : SV} {v u : Value} (hx : x.val ρ = some v) (hy : y.val ρ = some u) (X Y : Operand)
    (hg : ∀ w, (eqGuard op t X Y v u).run P w = .ok () w)
    (hb : op = .eql ∧ binOp op t v u = (do pure (.bool (← Op.equal t v u))) ∨ op = .neq ∧ binOp op t v u = (do pure (.bool (!(← Op.equal t v u)))))
    (h : (match op with | .eql => (eqS P Op.maxDepth t x y).map SV.bool | .neq => (eqS P Op.maxDepth t x y).map (fun r => SV.bool (!r)) | _ => none) = some r) :
    ∃ q, r.val ρ = some q ∧ ∀ w, (do eqGuard op t X Y v u; binOp op t v u : Sem Value).run P w = .ok q w := by
  rcases hb with ⟨rfl, hb⟩ | ⟨rfl, hb⟩
  · simp only [Option.map_eq_some_iff] at h
    obtain ⟨b, hb', rfl⟩ := h
    have := eqS_ok _ t x y b v u hb' hx hy
    exact ⟨_, rfl, fun w => by simp only [Sem.run_bind, hg, Result.andThen_ok, hb, Op.equal, this, Sem.run_pure]⟩
  · simp only [Option.map_eq_some_iff] at h
    obtain ⟨b, hb', rfl⟩ := h
    have := eqS_ok _ t x y b v u hb' hx hy
    exact ⟨_, rfl, fun w => by simp only [Sem.run_bind, hg, Result.andThen_ok, hb, Op.equal, this, Sem.run_pure]⟩
theorem val_nilIface {x : SV} (hr : ∀ v, x ≠ .raw v) (h : x.val ρ = some .nilIface) : x = .nili := by
  cases x <;> simp [SV.val] at h <;> first | rfl | (exact absurd rfl (hr _)) | skip
  rename_i f a b
  cases ha : SV.vals ρ a <;> cases hb : SV.vals ρ b <;> simp [ha, hb] at h
theorem val_agg {x : SV} {cs : Array Value} (hr : ∀ v, x ≠ .raw v) (h : x.val ρ = some (.agg cs)) : ∃ l, x = .agg l := by
  cases x <;> simp [SV.val] at h <;> first | exact ⟨_, rfl⟩ | (exact absurd rfl (hr _)) | skip
  rename_i f a b
  cases ha : SV.vals ρ a <;> cases hb : SV.vals ρ b <;> simp [ha, hb] at h
theorem val_int {x : SV} {k : IntKind} {n : Int} (hr : ∀ v, x ≠ .raw v) (h : x.val ρ = some (.int k n)) : ∃ k n, x = .int k n := by
  cases x <;> simp [SV.val] at h <;> first | exact ⟨_, _, rfl⟩ | (exact absurd rfl (hr _)) | skip
  rename_i f a b
  cases ha : SV.vals ρ a <;> cases hb : SV.vals ρ b <;> simp [ha, hb] at h
theorem val_str {x : SV} {s : ByteArray} (hr : ∀ v, x ≠ .raw v) (h : x.val ρ = some (.string s)) : ∃ l, x = .str l := by
  cases x <;> simp [SV.val] at h <;> first | exact ⟨_, rfl⟩ | (exact absurd rfl (hr _)) | skip
  rename_i f a b
  cases ha : SV.vals ρ a <;> cases hb : SV.vals ρ b <;> simp [ha, hb] at h
theorem val_float {x : SV} {k : FloatKind} {n : Nat} (hr : ∀ v, x ≠ .raw v) (h : x.val ρ = some (.float k n)) : False := by
  cases x <;> simp [SV.val] at h <;> first | (exact absurd rfl (hr _)) | skip
  rename_i f a b
  cases ha : SV.vals ρ a <;> cases hb : SV.vals ρ b <;> simp [ha, hb] at h
theorem val_complex {x : SV} {k : FloatKind} {n m : Nat} (hr : ∀ v, x ≠ .raw v) (h : x.val ρ = some (.complex k n m)) : False := by
  cases x <;> simp [SV.val] at h <;> first | (exact absurd rfl (hr _)) | skip
  rename_i f a b
  cases ha : SV.vals ρ a <;> cases hb : SV.vals ρ b <;> simp [ha, hb] at h
theorem eqGuard_other (op : BinOp) (t : TypeId) (X Y : Operand) {v u : Value} (h1 : ¬ (v = .nilIface ∧ u = .nilIface)) (h2 : ∀ a b, ¬ (v = .agg a ∧ u = .agg b)) : eqGuard op t X Y v u = pure () := by
  unfold eqGuard
  cases op <;> simp only [] <;> first
    | rfl
    | (split <;> first | rfl | (split <;> first | (exact absurd ⟨rfl, rfl⟩ h1) | (exact absurd ⟨rfl, rfl⟩ (h2 _ _)) | rfl))
theorem binOp_eql (t : TypeId) {v u : Value} (h1 : ∀ k a k' b, ¬ (v = .int k a ∧ u = .int k' b)) (h2 : ∀ a b, ¬ (v = .string a ∧ u = .string b)) (h3 : ∀ k a, v ≠ .float k a) (h4 : ∀ k a b, v ≠ .complex k a b) :
    binOp .eql t v u = (do pure (.bool (← Op.equal t v u))) := by
  cases v <;> cases u <;> first
    | rfl
    | (exact absurd ⟨rfl, rfl⟩ (h1 _ _ _ _))
    | (exact absurd ⟨rfl, rfl⟩ (h2 _ _))
    | (exact absurd rfl (h3 _ _))
    | (exact absurd rfl (h4 _ _ _))
theorem binOp_neq (t : TypeId) {v u : Value} (h1 : ∀ k a k' b, ¬ (v = .int k a ∧ u = .int k' b)) (h2 : ∀ a b, ¬ (v = .string a ∧ u = .string b)) (h3 : ∀ k a, v ≠ .float k a) (h4 : ∀ k a b, v ≠ .complex k a b) :
    binOp .neq t v u = (do pure (.bool (!(← Op.equal t v u)))) := by
  cases v <;> cases u <;> first
    | rfl
    | (exact absurd ⟨rfl, rfl⟩ (h1 _ _ _ _))
    | (exact absurd ⟨rfl, rfl⟩ (h2 _ _))
    | (exact absurd rfl (h3 _ _))
    | (exact absurd rfl (h4 _ _ _))
def isCst : Operand → Bool
  | .const _ => true
  | _ => false
theorem bin_ok {op : BinOp} {t : TypeId} {x y : SV} {v u : Value} (X Y : Operand) (hx : x.val ρ = some v) (hy : y.val ρ = some u) :
    OpOk P B ρ (MM.opt (binS P op t (isCst X || isCst Y) x y)) (do eqGuard op t X Y v u; binOp op t v u) := by
  refine OpOk.pure fun r h => ?_
  unfold binS at h
  split at h
  · split at h
    · rename_i hk
      simp only [SV.val, Option.some.injEq] at hx hy
      subst hx; subst hy
      exact int_ok hk h X Y
    · cases h
  · simp only [SV.val, Option.some.injEq] at hx hy
    subst hx; subst hy
    exact str_ok h X Y
  · split at h
    · rename_i hc
      simp only [SV.val, Option.some.injEq] at hx hy
      subst hx; subst hy
      have hg : ∀ w, (eqGuard op t X Y .nilIface .nilIface).run P w = .ok () w := by
        intro w
        unfold eqGuard
        cases X <;> cases Y <;> simp [isCst] at hc <;> cases op <;> simp
      cases op <;> simp only [reduceCtorEq] at h
      · exact eqG_ok (ρ := ρ) (x := .nili) (y := .nili) rfl rfl X Y hg (Or.inl ⟨rfl, rfl⟩) h
      · exact eqG_ok (ρ := ρ) (x := .nili) (y := .nili) rfl rfl X Y hg (Or.inr ⟨rfl, rfl⟩) h
    · cases h
  · cases h
  · cases h
  · rename_i a b
    split at h
    · cases h
    · rename_i hgt
      have hgt' : P.eqGuardType P.depth t = false := by simpa using hgt
      simp only [SV.val, Option.map_eq_some_iff] at hx hy
      obtain ⟨va, ha, rfl⟩ := hx
      obtain ⟨vb, hb, rfl⟩ := hy
      have hg : ∀ w, (eqGuard op t X Y (.agg va.toArray) (.agg vb.toArray)).run P w = .ok () w := fun w => run_eqGuard_agg w op t X Y _ _ hgt'
      cases op <;> simp only [reduceCtorEq] at h
      · exact eqG_ok (x := .agg a) (y := .agg b) (by simp [SV.val, ha]) (by simp [SV.val, hb]) X Y hg (Or.inl ⟨rfl, rfl⟩) h
      · exact eqG_ok (x := .agg a) (y := .agg b) (by simp [SV.val, ha]) (by simp [SV.val, hb]) X Y hg (Or.inr ⟨rfl, rfl⟩) h
  · skip
    rename_i n4 n5 n1 n2 n3 n6
    have rx : ∀ q, x ≠ .raw q := fun q e => n4 q e
    have ry : ∀ q, y ≠ .raw q := fun q e => n5 q e
    have hg := eqGuard_other op t X Y (v := v) (u := u) (fun ⟨e1, e2⟩ => n3 (val_nilIface rx (e1 ▸ hx)) (val_nilIface ry (e2 ▸ hy))) (fun a b ⟨e1, e2⟩ => by
      obtain ⟨l, hl⟩ := val_agg rx (e1 ▸ hx)
      obtain ⟨m, hm⟩ := val_agg ry (e2 ▸ hy)
      exact n6 l m hl hm)
    have q1 : ∀ k a k' b, ¬ (v = .int k a ∧ u = .int k' b) := fun k a k' b ⟨e1, e2⟩ => by
      obtain ⟨_, _, hl⟩ := val_int rx (e1 ▸ hx)
      obtain ⟨_, _, hm⟩ := val_int ry (e2 ▸ hy)
      exact n1 _ _ _ _ hl hm
    have q2 : ∀ a b, ¬ (v = .string a ∧ u = .string b) := fun a b ⟨e1, e2⟩ => by
      obtain ⟨_, hl⟩ := val_str rx (e1 ▸ hx)
      obtain ⟨_, hm⟩ := val_str ry (e2 ▸ hy)
      exact n2 _ _ hl hm
    have q3 : ∀ k a, v ≠ .float k a := fun k a e => val_float rx (e ▸ hx)
    have q4 : ∀ k a b, v ≠ .complex k a b := fun k a b e => val_complex rx (e ▸ hx)
    have hgr : ∀ w, (eqGuard op t X Y v u).run P w = .ok () w := fun w => by rw [hg]; rfl
    cases op <;> simp only [reduceCtorEq] at h
    · exact eqG_ok hx hy X Y hgr (Or.inl ⟨rfl, binOp_eql t q1 q2 q3 q4⟩) h
    · exact eqG_ok hx hy X Y hgr (Or.inr ⟨rfl, binOp_neq t q1 q2 q3 q4⟩) h
end
end Go.Proofs.YteecpkkgjioplaaDoor

/- Operations on abstract values: signs, conversions, lengths, slices of slices, makes. -/
namespace Go.Proofs.YteecpkkgjioplaaDoor
open Go

section
variable {P : Program} {B : Base} {ρ : Env}

def unS (op : UnOp) (x : SV) : Option SV :=
  match op, x with
  | .neg, .int k n => some (.int k (k.wrap (0 - n)))
  | .xor, .int k n => some (.int k (k.wrap ((BitVec.ofInt k.bits (if k.signed = true then -1 else k.max) ^^^ BitVec.ofInt k.bits n).toNat : Int)))
  | .not, .bool b => some (.bool !b)
  | _, _ => none
theorem un_ok {op : UnOp} {x : SV} {v : Value} (hx : x.val ρ = some v) : OpOk P B ρ (MM.opt (unS op x)) (Op.unary op v) := by
  refine OpOk.pure fun r h => ?_
  unfold unS at h
  split at h
  · simp only [SV.val, Option.some.injEq] at hx h; subst hx; subst h
    exact ⟨_, rfl, fun w => by simp [Op.unary, Op.intArith]⟩
  · simp only [SV.val, Option.some.injEq] at hx h; subst hx; subst h
    exact ⟨_, rfl, fun w => by simp [Op.unary, Op.intBits]⟩
  · simp only [SV.val, Option.some.injEq] at hx h; subst hx; subst h
    exact ⟨_, rfl, fun w => by simp [Op.unary]⟩
  · cases h

theorem makeInterface_ok {t : TypeId} {x : SV} {v : Value} (hx : x.val ρ = some v) :
    OpOk P B ρ (MM.opt (match P.underlying t with | some (.interface _) => none | some _ => some (.ifc t x) | none => none)) (Instr.makeInterface t v) := by
  refine OpOk.pure fun r h => ?_
  cases hu : P.underlying t with
  | none => simp [hu] at h
  | some d =>
    simp only [hu] at h
    cases d <;> simp only [reduceCtorEq, Option.some.injEq] at h
    all_goals
      subst h
      exact ⟨.iface t v, by simp [SV.val, hx], fun w => by simp [Instr.makeInterface, run_underlying hu]⟩
theorem makeFunc_ok {f : Fn} {a b : List SV} {va vb : List Value} (ha : SV.vals ρ a = some va) (hb : SV.vals ρ b = some vb) :
    OpOk P B ρ (MM.opt (some (.fn f a b))) (Instr.makeFunc f va.toArray vb.toArray) :=
  OpOk.pure fun r h => by
    simp only [Option.some.injEq] at h
    subst h
    exact ⟨_, by simp [SV.val, ha, hb], fun w => rfl⟩
def nilS (x : SV) : Option SV :=
  match x with
  | .ptr n o => some (.ptr n o)
  | .fn (.func f) a b => some (.fn (.func f) a b)
  | _ => none

/-- LEN, CAP. -/
def lenM (P : Program) (t : TypeId) (x : SV) : MM SV :=
  match P.underlying t, x with
  | some .string, .str l => .ret (.int .i64 l.length)
  | some (.array n _), _ => .ret (.int .i64 n)
  | some (.slice _), .slc _ _ _ len _ => .ret (.int .i64 len)
  | some (.slice _), .slz _ _ _ _ => .ret (.int .i64 0)
  | some (.slice _), .nils => .ret (.int .i64 0)
  | some (.map _ _), .nilm => .ret (.int .i64 0)
  | some (.map _ _), .mp n => .get n fun c =>
    match c with
    | .map es _ => .ret (.int .i64 es.length)
    | _ => .fail
  | some (.pointer a), .ptr _ _ =>
    match P.underlying a with
    | some (.array n _) => .ret (.int .i64 n)
    | _ => .fail
  | _, _ => .fail
theorem OpOk.ret {r : SV} {sem : Sem Value} {v : Value} (hv : r.val ρ = some v) (h : ∀ w, sem.run P w = .ok v w) : OpOk P B ρ (.ret r) sem :=
  OpOk.pure (o := some r) fun q e => by
    simp only [Option.some.injEq] at e
    subst e
    exact ⟨v, hv, h⟩
theorem len_ok {t ty : TypeId} {ts : Array TypeId} {x : SV} {v : Value} (ht : ts[0]? = some t) (hx : x.val ρ = some v) : OpOk P B ρ (lenM P t x) (Builtin.len_ ts ty #[v]) := by
  unfold lenM
  split
  · rename_i hu
    simp only [SV.val, Option.some.injEq] at hx; subst hx
    exact OpOk.ret rfl fun w => by simp [Builtin.len_, ht, run_underlying hu, bytesOf_size, goInt]
  · rename_i hu
    exact OpOk.ret rfl fun w => by simp [Builtin.len_, ht, run_underlying hu, goInt]
  · rename_i hu
    simp only [SV.val, Option.map_eq_some_iff] at hx; obtain ⟨p, _, rfl⟩ := hx
    exact OpOk.ret rfl fun w => by simp [Builtin.len_, ht, run_underlying hu, goInt]
  · rename_i hu
    simp only [SV.val, Option.map_eq_some_iff] at hx; obtain ⟨p, _, rfl⟩ := hx
    exact OpOk.ret rfl fun w => by simp [Builtin.len_, ht, run_underlying hu, goInt]
  · rename_i hu
    simp only [SV.val, Option.some.injEq] at hx; subst hx
    exact OpOk.ret rfl fun w => by simp [Builtin.len_, ht, run_underlying hu, goInt]
  · rename_i hu
    simp only [SV.val, Option.some.injEq] at hx; subst hx
    exact OpOk.ret rfl fun w => by simp [Builtin.len_, ht, run_underlying hu, goInt]
  · rename_i k e n hu
    intro s s' r w _ hs e'
    simp only [MM.run] at e'
    simp only [SV.val, Option.map_eq_some_iff] at hx; obtain ⟨p, hp, rfl⟩ := hx
    cases hc : s.hp.get n with
    | none => simp [hc] at e'
    | some c =>
      simp only [hc] at e'
      obtain ⟨q, hq, ⟨o, ho, hob⟩, hM⟩ := hs.own n c hc
      rw [hp] at hq
      obtain rfl := Option.some.inj hq
      cases c <;> simp only [MM.run] at e' <;> try cases e'
      rename_i es clock
      obtain ⟨arr, rfl, hents⟩ := hob
      have hl := hents.len
      refine ⟨_, w, ?_, ρ, Env.le.refl ρ, fun n hn => Or.inl hn, rfl, hs⟩
      simp only [Array.length_toList] at hl
      simp [Builtin.len_, ht, run_underlying hu, goInt, getObj, Sem.run, ho, hl]
  · rename_i a n o hu
    split
    · rename_i m e hua
      exact OpOk.ret rfl fun w => by simp [Builtin.len_, ht, run_underlying hu, run_underlying hua, goInt]
    · exact OpOk.fails
  · exact OpOk.fails

/-- Min, max of two numbers. -/
def maxS (mx : Bool) : SV → List SV → Option SV
  | x, [] => some x
  | .int k a, .int _ b :: r => maxS mx (.int k (bif mx then (if b > a then b else a) else (if b < a then b else a))) r
  | _, _ => none
theorem max_ok (mx : Bool) : ∀ (r : List SV) (x : SV) (vs : List Value) (v : Value) (out : SV), SV.vals ρ r = some vs → x.val ρ = some v → maxS mx x r = some out →
    ∃ u, out.val ρ = some u ∧ ∀ w, (vs.foldlM (fun a b => bif mx then Builtin.max2 a b else Builtin.min2 a b) v : Sem Value).run P w = .ok u w
  | [], x, vs, v, out, hr, hx, h => by
    simp only [SV.vals, Option.some.injEq] at hr
    subst hr
    simp only [maxS, Option.some.injEq] at h
    subst h
    exact ⟨v, hx, fun w => by simp⟩
  | y :: r, x, vs, v, out, hr, hx, h => by
    obtain ⟨u, us, hu, hus, rfl⟩ := SV.vals_cons hr
    cases x <;> cases y <;> simp only [maxS, reduceCtorEq] at h
    rename_i k a k' b
    simp only [SV.val, Option.some.injEq] at hx hu
    subst hx; subst hu
    obtain ⟨z, h1, h2⟩ := max_ok mx r _ us _ out hus rfl h
    refine ⟨z, h1, fun w => ?_⟩
    have h2w := h2 w
    cases mx <;> simp only [List.foldlM_cons, Sem.run_bind, Builtin.max2, Builtin.min2, cond_true, cond_false, Sem.run_pure, Result.andThen_ok] at h2w ⊢ <;> exact h2w

/-- MAKE. -/
def makeSliceM (P : Program) (t : TypeId) (x y : SV) : MM SV :=
  match P.underlying t, x, y with
  | some (.slice e), .int _ len, .int _ cap =>
    match P.info? e with
    | some j =>
      match j.zero with
      | some z =>
        bif decide (0 ≤ len) && (decide (len ≤ cap) && (decide (cap ≤ 1048576) && (Nat.blt 0 z.cells.size && Nat.ble j.bytes 134217728))) then
          .new (.cells (zrow (z.cells.toList.map toSV1) (cap.toNat * j.size)) true false) fun n => .ret (.slc n j.size 0 len.toNat (some cap.toNat))
        else .fail
      | none => .fail
    | none => .fail
  | _, _, _ => .fail
theorem wrap_small {n : Int} (h0 : 0 ≤ n) (h1 : n ≤ 1048576) : IntKind.i64.wrap n = n := by
  have : n % 18446744073709551616 = n := Int.emod_eq_of_lt h0 (by omega)
  simp [IntKind.wrap, IntKind.bits, IntKind.signed, this]
  omega
theorem makeSlice_ok {t : TypeId} {x y : SV} {v u : Value} (hx : x.val ρ = some v) (hy : y.val ρ = some u) : OpOk P B ρ (makeSliceM P t x y) (Instr.makeSlice t v u) := by
  unfold makeSliceM
  split
  · rename_i e k len k' cap hu
    cases hj : P.info? e with
    | none => exact OpOk.fails
    | some j =>
      cases hz : j.zero with
      | none => simp only [hz]; exact OpOk.fails
      | some z =>
        simp only [hz]
        cases hb : (decide (0 ≤ len) && (decide (len ≤ cap) && (decide (cap ≤ 1048576) && (Nat.blt 0 z.cells.size && Nat.ble j.bytes 134217728)))) with
        | false => exact OpOk.fails
        | true =>
          simp only [cond_true]
          simp only [Bool.and_eq_true, decide_eq_true_eq, Nat.blt_eq] at hb
          obtain ⟨h0, h1, h2, h3, h4⟩ := hb
          have h4' := Nat.le_of_ble_eq_true h4
          simp only [SV.val, Option.some.injEq] at hx hy
          subst hx; subst hy
          have wc := wrap_small (n := cap) (by omega) h2
          have wl := wrap_small (n := len) h0 (by omega)
          refine OpOk.newCells (mkv := fun b => .slice (some ⟨b, 0, none⟩) len.toNat cap.toNat) (zrow_vals z.cells (cap.toNat * j.size) (Or.inr h3)) (fun w => ⟨e, w.drawn, ?_⟩) (fun n ρ' p hp _ _ => by simp [SV.val, hp, Place.addr])
          have hbig : ¬ ((2 : Int) ^ 48 < (j.bytes : Int) * cap) := by
            have : (j.bytes : Int) * cap ≤ 134217728 * 1048576 := Int.mul_le_mul (by omega) h2 (by omega) (by omega)
            omega
          have hcells : (Array.range (cap.toNat * j.size)).map (fun x => z.cells[x % z.cells.size]!) = ((List.range (cap.toNat * j.size)).map fun i => z.cells[i % z.cells.size]!).toArray := by
            apply Array.ext'; simp
          have n1 : ¬ cap < 0 := by omega
          have n2 : ¬ len < 0 := by omega
          have n3 : ¬ len > cap := by omega
          have hcond : ((decide (cap < 0) || decide ((j.bytes : Int) * cap > 2 ^ 48)) || decide (len < 0) || decide (len > cap)) = false := by
            simp [n1, n2, n3]; omega
          simp only [Instr.makeSlice, Sem.run_bind, run_underlying hu, Result.andThen_ok, asInt, asIntOf, Sem.run_pure, run_typeInfo' hj, wc, wl]
          rw [if_neg (by rw [hcond]; simp)]
          simp only [Sem.run_bind, run_askRoom, Result.andThen_ok, run_sizeOf' hj]
          by_cases hz0 : cap.toNat * j.size = 0
          · rw [if_pos hz0]
            have hr0 : ∀ f : Nat → Value, Array.map f (Array.range 0) = #[] := fun f => by apply Array.ext'; simp
            simp [hz0, hr0, newRow]
          · rw [if_neg hz0]
            simp only [Sem.run_bind, run_zero' hj hz, Result.andThen_ok, Sem.run_pure, hcells]
            simp [newRow]
  · exact OpOk.fails
end
end Go.Proofs.YteecpkkgjioplaaDoor

/- Operations on abstract values: slices of slices, appends, copies. -/
namespace Go.Proofs.YteecpkkgjioplaaDoor
open Go

section
variable {P : Program} {B : Base} {ρ : Env}

def bndS (x : Option SV) (dflt y : Nat) : Option Nat :=
  match x with
  | none => some dflt
  | some (.int _ i) => bif decide (0 ≤ i) && decide (i ≤ y) then some i.toNat else none
  | _ => none
/-- Bounds that are values of operands. -/
def OVal (ρ : Env) : Option SV → Option Value → Prop
  | none, none => True
  | some x, some v => x.val ρ = some v
  | _, _ => False
theorem bnd_ok {x : Option SV} {v : Option Value} {d y r : Nat} {code : BoundsCode} (hx : OVal ρ x v) (h : bndS x d y = some r) (w : World) :
    (match v with | some u => Instr.sliceBound u y code | none => pure d : Sem Nat).run P w = .ok r w := by
  cases x with
  | none =>
    cases v with
    | none => simp only [bndS, Option.some.injEq] at h; subst h; simp
    | some u => cases hx
  | some x =>
    cases v with
    | none => cases hx
    | some u =>
      simp only [OVal] at hx
      cases x <;> simp only [bndS, reduceCtorEq] at h
      rename_i k i
      cases hb : (decide (0 ≤ i) && decide (i ≤ y)) with
      | false => simp [hb] at h
      | true =>
        simp only [hb, cond_true, Option.some.injEq] at h
        subst h
        simp only [SV.val, Option.some.injEq] at hx
        subst hx
        simp only [Bool.and_eq_true, decide_eq_true_eq] at hb
        simp [Instr.sliceBound, asIntOf, hb.1, hb.2]
/-- The three bounds of a slice expression: 'mx' is none where it is left out. -/
def bndsS (len cap : Nat) (lo hi mx : Option SV) : Option (Nat × Nat × Nat) :=
  match hi, mx with
  | none, some _ => none
  | _, _ =>
    match bndS mx cap cap with
    | none => none
    | some m =>
      match bndS hi len m with
      | none => none
      | some h =>
        match bndS lo 0 h with
        | none => none
        | some l => some (l, h, m)
theorem bnds_ok {isS : Bool} {len cap l h m : Nat} {lo hi mx : Option SV} {vlo vhi vmx : Option Value} (h1 : OVal ρ lo vlo) (h2 : OVal ρ hi vhi) (h3 : OVal ρ mx vmx)
    (hb : bndsS len cap lo hi mx = some (l, h, m)) (w : World) : (Instr.sliceBounds isS len cap vlo vhi vmx).run P w = .ok (l, h, m) w := by
  unfold bndsS at hb
  split at hb
  · cases hb
  · rename_i hne
    cases hm : bndS mx cap cap with
    | none => simp [hm] at hb
    | some m' =>
      simp only [hm] at hb
      cases hh : bndS hi len m' with
      | none => simp [hh] at hb
      | some h' =>
        simp only [hh] at hb
        cases hl : bndS lo 0 h' with
        | none => simp [hl] at hb
        | some l' =>
          simp only [hl, Option.some.injEq, Prod.mk.injEq] at hb
          obtain ⟨rfl, rfl, rfl⟩ := hb
          have e3 := fun c => bnd_ok (P := P) (code := c) h3 hm w
          have e2 := fun c => bnd_ok (P := P) (code := c) h2 hh w
          have e1 := fun c => bnd_ok (P := P) (code := c) h1 hl w
          cases vmx with
          | none =>
            have hmm : mx = none := by cases mx with | none => rfl | some x => cases h3
            subst hmm
            simp only [bndS, Option.some.injEq] at hm
            subst hm
            cases vhi with
            | none =>
              have hhh : hi = none := by cases hi with | none => rfl | some x => cases h2
              subst hhh
              simp only [bndS, Option.some.injEq] at hh
              subst hh
              cases vlo with
              | none =>
                have e1' := e1 .sliceB
                simp only [Sem.run_pure, Result.ok.injEq, and_true] at e1'
                subst e1'
                simp [Instr.sliceBounds]
              | some u =>
                have e1' := e1 .sliceB
                simp only at e1'
                simp [Instr.sliceBounds, e1']
            | some uh =>
              have e2' := e2 (if isS then .sliceAcap else .sliceAlen)
              simp only at e2'
              cases vlo with
              | none =>
                have e1' := e1 .sliceB
                simp only [Sem.run_pure, Result.ok.injEq, and_true] at e1'
                subst e1'
                simp [Instr.sliceBounds, e2']
              | some u =>
                have e1' := e1 .sliceB
                simp only at e1'
                simp [Instr.sliceBounds, e2', e1']
          | some um =>
            have e3' := e3 (if isS then .slice3Acap else .slice3Alen)
            simp only at e3'
            cases vhi with
            | none =>
              exfalso
              have hhh : hi = none := by cases hi with | none => rfl | some x => cases h2
              cases mx with
              | none => cases h3
              | some x => exact hne x hhh rfl
            | some uh =>
              have e2' := e2 .slice3B
              simp only at e2'
              cases vlo with
              | none =>
                have e1' := e1 .slice3C
                simp only [Sem.run_pure, Result.ok.injEq, and_true] at e1'
                subst e1'
                simp [Instr.sliceBounds, e3', e2']
              | some u =>
                have e1' := e1 .slice3C
                simp only at e1'
                simp [Instr.sliceBounds, e3', e2', e1']

theorem bndS_le {x : Option SV} {d y r : Nat} (hd : d ≤ y) (h : bndS x d y = some r) : r ≤ y := by
  cases x with
  | none => simp only [bndS, Option.some.injEq] at h; omega
  | some x =>
    cases x <;> simp only [bndS, reduceCtorEq] at h
    rename_i k i
    cases hb : (decide (0 ≤ i) && decide (i ≤ y)) with
    | false => simp [hb] at h
    | true =>
      simp only [hb, cond_true, Option.some.injEq] at h
      subst h
      simp only [Bool.and_eq_true, decide_eq_true_eq] at hb
      omega
theorem bndS_le' {x : SV} {d y r : Nat} (h : bndS (some x) d y = some r) : r ≤ y := by
  cases x <;> simp only [bndS, reduceCtorEq] at h
  rename_i k i
  cases hb : (decide (0 ≤ i) && decide (i ≤ (y : Int))) with
  | false => simp [hb] at h
  | true =>
    simp only [hb, cond_true, Option.some.injEq] at h
    subst h
    simp only [Bool.and_eq_true, decide_eq_true_eq] at hb
    omega
theorem bndsS_le {len cap l h m : Nat} {lo hi mx : Option SV} (hc : len ≤ cap) (hb : bndsS len cap lo hi mx = some (l, h, m)) : l ≤ h ∧ h ≤ m ∧ m ≤ cap := by
  unfold bndsS at hb
  split at hb
  · cases hb
  · rename_i hne
    cases hm' : bndS mx cap cap with
    | none => simp [hm'] at hb
    | some m' =>
      simp only [hm'] at hb
      cases hh : bndS hi len m' with
      | none => simp [hh] at hb
      | some h' =>
        simp only [hh] at hb
        cases hl : bndS lo 0 h' with
        | none => simp [hl] at hb
        | some l' =>
          simp only [hl, Option.some.injEq, Prod.mk.injEq] at hb
          obtain ⟨rfl, rfl, rfl⟩ := hb
          have a := bndS_le (Nat.le_refl _) hm'
          have c := bndS_le (Nat.zero_le _) hl
          cases hi with
          | some x => exact ⟨c, bndS_le' hh, a⟩
          | none =>
            cases mx with
            | some x => exact absurd rfl (fun e => hne x e rfl)
            | none =>
              simp only [bndS, Option.some.injEq] at hm'
              subst hm'
              exact ⟨c, bndS_le hc hh, a⟩
theorem bndS_mono {x : Option SV} {d y y' r : Nat} (hy : y ≤ y') (h : bndS x d y = some r) : bndS x d y' = some r := by
  cases x with
  | none => exact h
  | some x =>
    cases x <;> simp only [bndS, reduceCtorEq] at h ⊢
    rename_i k i
    cases hb : (decide (0 ≤ i) && decide (i ≤ (y : Int))) with
    | false => simp [hb] at h
    | true =>
      simp only [hb, cond_true] at h
      simp only [Bool.and_eq_true, decide_eq_true_eq] at hb
      have : (decide (0 ≤ i) && decide (i ≤ (y' : Int))) = true := by simp only [Bool.and_eq_true, decide_eq_true_eq]; omega
      simp only [this, cond_true]
      exact h
theorem bndsS_mono {len cap l h m : Nat} {lo hi : Option SV} (hc : len ≤ cap) (hb : bndsS len len lo hi none = some (l, h, m)) : bndsS len cap lo hi none = some (l, h, cap) ∧ l ≤ h ∧ h ≤ len := by
  have hle := bndsS_le (Nat.le_refl _) hb
  have h1 : bndS none len len = some len := rfl
  have h2 : bndS none cap cap = some cap := rfl
  cases hi with
  | none =>
    simp only [bndsS, h1, h2] at hb ⊢
    have h4 : bndS none len cap = some len := rfl
    simp only [h4] at hb ⊢
    cases hl : bndS lo 0 len with
    | none => simp [hl] at hb
    | some l' =>
      simp only [hl, Option.some.injEq, Prod.mk.injEq] at hb ⊢
      obtain ⟨rfl, rfl, rfl⟩ := hb
      exact ⟨by simp, hle.1, Nat.le_refl _⟩
  | some y =>
    simp only [bndsS, h1, h2] at hb ⊢
    cases hy : bndS (some y) len len with
    | none => simp [hy] at hb
    | some h' =>
      simp only [hy, bndS_mono hc hy] at hb ⊢
      cases hl : bndS lo 0 h' with
      | none => simp [hl] at hb
      | some l' =>
        simp only [hl, Option.some.injEq, Prod.mk.injEq] at hb ⊢
        obtain ⟨rfl, rfl, rfl⟩ := hb
        exact ⟨by simp, hle.1, hle.2.1⟩

/-- SLICE. -/
def sliceM (P : Program) (t : TypeId) (x : SV) (lo hi mx : Option SV) : MM SV :=
  match P.underlying t, x with
  | some .string, .str s =>
    match mx, bndsS s.length s.length lo hi none with
    | none, some (l, h, _) => .ret (.str ((s.drop l).take (h - l)))
    | _, _ => .fail
  | some (.slice e), .slc n esz off len (some cap) =>
    match P.info? e, bndsS len cap lo hi mx with
    | some j, some (l, h, m) => bif Nat.beq j.size esz then .ret (.slc n esz (bif Nat.beq m l then off else off + l * esz) (h - l) (some (m - l))) else .fail
    | _, _ => .fail
  | some (.slice e), .slc n esz off len none => .get n fun c =>
    match c, P.info? e, mx, bndsS len len lo hi none with
    | .cells ls _ _, some j, none, some (l, h, _) =>
      bif Nat.beq j.size esz && (Nat.blt 0 esz && Nat.ble (off + len * esz) ls.length) then
        .ret (bif Nat.blt l h then .slc n esz (off + l * esz) (h - l) none else .slz n esz off l)
      else .fail
    | _, _, _, _ => .fail
  | some (.slice _), .slz n esz off k =>
    match P.underlying t, mx, bndsS 0 0 lo hi none with
    | some (.slice e), none, some _ => match P.info? e with | some _ => .ret (.slz n esz off k) | none => .fail
    | _, _, _ => .fail
  | some (.slice e), .nils =>
    match P.info? e, bndsS 0 0 lo hi mx with
    | some _, some _ => .ret .nils
    | _, _ => .fail
  | some (.array k e), .ptr n off =>
    match P.info? e, bndsS k k lo hi mx with
    | some j, some (l, h, m) => .ret (.slc n j.size (bif Nat.beq m l then off else off + l * j.size) (h - l) (some (m - l)))
    | _, _ => .fail
  | some (.pointer a), .ptr n off =>
    match P.underlying a with
    | some (.array k e) =>
      match P.info? e, bndsS k k lo hi mx with
      | some j, some (l, h, m) => .ret (.slc n j.size (bif Nat.beq m l then off else off + l * j.size) (h - l) (some (m - l)))
      | _, _ => .fail
    | _ => .fail
  | _, _ => .fail
theorem bytesOf_extract (s : List Nat) (l h : Nat) : (bytesOf s).extract l h = bytesOf ((s.drop l).take (h - l)) := by
  apply ByteArray.ext
  simp [bytesOf, ByteArray.data_extract]
theorem ite_beq {α : Type} (a b : Nat) (x y : α) : (bif Nat.beq a b then x else y) = if a = b then x else y := by
  cases hb : Nat.beq a b with
  | true => rw [if_pos (Nat.eq_of_beq_eq_true hb)]; rfl
  | false => rw [if_neg (Nat.ne_of_beq_eq_false hb)]; rfl
theorem slice_ok {t : TypeId} {x : SV} {v : Value} {lo hi mx : Option SV} {vlo vhi vmx : Option Value} (hx : x.val ρ = some v) (h1 : OVal ρ lo vlo) (h2 : OVal ρ hi vhi) (h3 : OVal ρ mx vmx) :
    OpOk P B ρ (sliceM P t x lo hi mx) (Instr.sliceAt t v vlo vhi vmx) := by
  have hmx : mx = none → vmx = none := fun e => by subst e; cases vmx with | none => rfl | some _ => cases h3
  unfold sliceM
  split
  · rename_i s hu
    split
    · rename_i l h m hb
      simp only [SV.val, Option.some.injEq] at hx; subst hx
      obtain rfl := hmx rfl
      have hr := fun w => bnds_ok (P := P) (isS := false) h1 h2 (vmx := none) (mx := none) trivial hb w
      refine OpOk.ret (v := .string ((bytesOf s).extract l h)) (by simp [SV.val, bytesOf_extract]) fun w => ?_
      simp [Instr.sliceAt, Instr.slice, run_underlying hu, bytesOf_size, hr]
    · exact OpOk.fails
  · rename_i e n esz off len cap hu
    split
    · rename_i j l h m hj hb
      cases hs : Nat.beq j.size esz with
      | false => exact OpOk.fails
      | true =>
        have hs' := Nat.eq_of_beq_eq_true hs
        simp only [SV.val, Option.map_eq_some_iff, Option.getD_some] at hx; obtain ⟨p, hp, rfl⟩ := hx
        have hr := fun w => bnds_ok (P := P) (isS := true) h1 h2 h3 hb w
        refine OpOk.ret (v := .slice (some (if m = l then p.addr off else (p.addr off).add (l * esz))) (h - l) (m - l)) ?_ fun w => ?_
        · simp only [SV.val, hp, Option.map_some, Option.getD_some, ite_beq, Option.some.injEq, Value.slice.injEq, and_true, true_and]
          split <;> simp [Place.addr, add_eq]
        · subst hs'
          simp only [Instr.sliceAt, Instr.slice, run_underlying hu, Sem.run_bind, Result.andThen_ok, hr, run_sizeOf' hj, Sem.run_pure]
          split <;> simp
    · exact OpOk.fails
  · rename_i e n esz off len hu
    intro s s' r w _ hs e'
    simp only [MM.run] at e'
    simp only [SV.val, Option.map_eq_some_iff, Option.getD_none] at hx; obtain ⟨p, hp, rfl⟩ := hx
    cases hc : s.hp.get n with
    | none => simp [hc] at e'
    | some c =>
      simp only [hc] at e'
      obtain ⟨q, hq, ⟨o, ho, hob⟩, hM⟩ := hs.own n c hc
      rw [hp] at hq
      obtain rfl := Option.some.inj hq
      split at e'
      · rename_i ls sh ro j l h m hj hb
        obtain ⟨arr, ty, fz, rfl, hsz, _, hlen, _⟩ := hob
        cases hbb : (Nat.beq j.size esz && (Nat.blt 0 esz && Nat.ble (off + len * esz) ls.length)) with
        | false => simp [hbb, MM.run] at e'
        | true =>
          simp only [hbb, cond_true, MM.run, Option.some.injEq, Prod.mk.injEq] at e'
          obtain ⟨rfl, rfl⟩ := e'
          simp only [Bool.and_eq_true, Nat.blt_eq] at hbb
          obtain ⟨hj1, hj2, hj3⟩ := hbb
          have hj1' := Nat.eq_of_beq_eq_true hj1
          have hj3' := Nat.le_of_ble_eq_true hj3
          obtain rfl := hmx rfl
          subst hj1'
          have hcap : len ≤ (p.sz - off) / j.size := by
            rw [Nat.le_div_iff_mul_le hj2]
            omega
          -- the bounds at the true capacity
          have hb' := bndsS_mono hcap hb
          obtain ⟨hb1, hb2, hb3⟩ := hb'
          have hr := bnds_ok (P := P) (isS := true) h1 h2 (vmx := none) (mx := none) trivial hb1 w
          refine ⟨.slice (some (if (p.sz - off) / j.size = l then p.addr off else (p.addr off).add (l * j.size))) (h - l) ((p.sz - off) / j.size - l), w, ?_, ρ, Env.le.refl ρ, fun n hn => Or.inl hn, ?_, hs⟩
          · simp only [Instr.sliceAt, Instr.slice, run_underlying hu, Sem.run_bind, Result.andThen_ok, hr, run_sizeOf' hj, Sem.run_pure]
            split <;> simp
          · cases hlt : Nat.blt l h with
            | true =>
              rw [Nat.blt_eq] at hlt
              simp only [cond_true, SV.val, hp, Option.map_some, Option.getD_none, Option.some.injEq, Value.slice.injEq, true_and]
              rw [if_neg (by omega)]
              refine ⟨by simp [Place.addr, add_eq], ?_⟩
              rw [Nat.sub_add_eq, Nat.mul_comm l]
              exact (Nat.sub_mul_div _ _ _).symm ▸ rfl
            | false =>
              have : ¬ l < h := fun hh => by rw [← Nat.blt_eq, hlt] at hh; cases hh
              have hlh : l = h := by omega
              subst hlh
              simp only [cond_false, SV.val, hp, Option.map_some, Nat.sub_self, Option.some.injEq, Value.slice.injEq, and_true]
              split <;> simp [Place.addr, add_eq]
      · simp [MM.run] at e'
  · rename_i n esz off k hu0
    split
    · rename_i e q hu hb
      obtain ⟨l, h, m⟩ := q
      cases hi : P.info? e with
      | none => exact OpOk.fails
      | some i =>
        simp only [SV.val, Option.map_eq_some_iff] at hx; obtain ⟨p, hp, rfl⟩ := hx
        obtain rfl := hmx rfl
        have hb' := bndsS_mono (Nat.zero_le ((p.sz - off) / esz - k)) hb
        obtain ⟨hb1, hb2, hb3⟩ := hb'
        have hl0 : l = 0 := by omega
        have hh0 : h = 0 := by omega
        subst hl0; subst hh0
        have hr := fun w => bnds_ok (P := P) (isS := true) h1 h2 (vmx := none) (mx := none) trivial hb1 w
        refine OpOk.ret (v := .slice (some (p.addr (if (p.sz - off) / esz = k then off else off + k * esz))) 0 ((p.sz - off) / esz - k)) (by simp [SV.val, hp]) fun w => ?_
        simp only [Instr.sliceAt, Instr.slice, run_underlying hu, Sem.run_bind, Result.andThen_ok, hr, run_sizeOf' hi, Sem.run_pure]
        simp [Place.addr, add_eq]
    · exact OpOk.fails
  · rename_i e hu
    split
    · rename_i i q hi hb
      obtain ⟨l, h, m⟩ := q
      simp only [SV.val, Option.some.injEq] at hx; subst hx
      have hr := fun w => bnds_ok (P := P) (isS := true) h1 h2 h3 hb w
      have hle := bndsS_le (Nat.le_refl _) hb
      obtain rfl : m = 0 := by omega
      obtain rfl : h = 0 := by omega
      obtain rfl : l = 0 := by omega
      refine OpOk.ret rfl fun w => ?_
      simp [Instr.sliceAt, Instr.slice, run_underlying hu, hr, run_sizeOf' hi]
    · exact OpOk.fails
  · rename_i k e n off hu
    split
    · rename_i j l h m hj hb
      simp only [SV.val, Option.map_eq_some_iff] at hx; obtain ⟨p, hp, rfl⟩ := hx
      have hr := fun w => bnds_ok (P := P) (isS := false) h1 h2 h3 hb w
      refine OpOk.ret (v := .slice (some (if m = l then p.addr off else (p.addr off).add (l * j.size))) (h - l) (m - l)) ?_ fun w => ?_
      · simp only [SV.val, hp, Option.map_some, Option.getD_some, ite_beq, Option.some.injEq, Value.slice.injEq, and_true]
        split <;> simp [Place.addr, add_eq]
      · simp only [Instr.sliceAt, Instr.sureAddr, run_underlying hu, Sem.run_bind, Result.andThen_ok, hr, run_sizeOf' hj, Sem.run_pure]
    · exact OpOk.fails
  · rename_i a n off hu
    split
    · rename_i k e hua
      split
      · rename_i j l h m hj hb
        simp only [SV.val, Option.map_eq_some_iff] at hx; obtain ⟨p, hp, rfl⟩ := hx
        have hr := fun w => bnds_ok (P := P) (isS := false) h1 h2 h3 hb w
        refine OpOk.ret (v := .slice (some (if m = l then p.addr off else (p.addr off).add (l * j.size))) (h - l) (m - l)) ?_ fun w => ?_
        · simp only [SV.val, hp, Option.map_some, Option.getD_some, ite_beq, Option.some.injEq, Value.slice.injEq, and_true]
          split <;> simp [Place.addr, add_eq]
        · simp [Instr.sliceAt, Instr.slice, asAddr, run_underlying hu, run_underlying hua, hr, run_sizeOf' hj]
      · exact OpOk.fails
    · exact OpOk.fails
  · exact OpOk.fails
end
end Go.Proofs.YteecpkkgjioplaaDoor

/- Operations on abstract values: append, copy. -/
namespace Go.Proofs.YteecpkkgjioplaaDoor
open Go

section
variable {P : Program} {B : Base} {ρ : Env}

def notInt : TypeDesc → Bool
  | .slice _ => true
  | .string => true
  | _ => false
theorem notInt_cases {d : TypeDesc} (h : notInt d = true) : (∃ e, d = .slice e) ∨ d = .string := by
  cases d <;> simp [notInt] at h ⊢
theorem run_append_in {ts : Array TypeId} {ty t t' e : TypeId} {d : TypeDesc} {j : TypeInfo} {x : Value} {a : Addr} {sLen sCap n : Nat} {news : List Value} {w : World}
    (h0 : ts[0]? = some t) (h1 : ts[1]? = some t') (hu : P.underlying t = some (.slice e)) (hu' : P.underlying t' = some d) (hd : notInt d = true) (hj : P.info? e = some j)
    (hl : (Builtin.lenOf x).run P w = .ok n w) (hn : (Builtin.firstCells j.size n x).run P w = .ok news.toArray w) (hle : sLen + n ≤ sCap) :
    (Builtin.append_ ts ty #[.slice (some a) sLen sCap, x]).run P w = ((storeCells (a.add (sLen * j.size)) news).run P w).andThen fun _ w' => .ok (.slice (some a) (sLen + n) sCap) w' := by
  rcases notInt_cases hd with ⟨e', rfl⟩ | rfl
  all_goals simp [Builtin.append_, h0, h1, run_underlying hu, run_underlying hu', run_sizeOf' hj, hl, hle, hn]
theorem run_append_nil0 {ts : Array TypeId} {ty t t' e : TypeId} {d : TypeDesc} {j : TypeInfo} {x : Value} {w : World}
    (h0 : ts[0]? = some t) (h1 : ts[1]? = some t') (hu : P.underlying t = some (.slice e)) (hu' : P.underlying t' = some d) (hd : notInt d = true) (hj : P.info? e = some j)
    (hl : (Builtin.lenOf x).run P w = .ok 0 w) (hn : (Builtin.firstCells j.size 0 x).run P w = .ok #[] w) :
    (Builtin.append_ ts ty #[.slice none 0 0, x]).run P w = .ok (.slice none 0 0) w := by
  rcases notInt_cases hd with ⟨e', rfl⟩ | rfl
  all_goals simp [Builtin.append_, h0, h1, run_underlying hu, run_underlying hu', run_sizeOf' hj, hl, hn]
theorem run_append_out {ts : Array TypeId} {ty t t' e : TypeId} {d : TypeDesc} {j : TypeInfo} {z : Value} {x : Value} {ba : Option Addr} {sLen sCap n : Nat} {olds news : List Value} {w : World}
    (h0 : ts[0]? = some t) (h1 : ts[1]? = some t') (hu : P.underlying t = some (.slice e)) (hu' : P.underlying t' = some d) (hd : notInt d = true) (hj : P.info? e = some j) (hzr : j.zero = some z)
    (hl : (Builtin.lenOf x).run P w = .ok n w) (hn : (Builtin.firstCells j.size n x).run P w.drew = .ok news.toArray w.drew) (ho : (Builtin.firstCells j.size sLen (.slice ba sLen sCap)).run P w.drew = .ok olds.toArray w.drew)
    (hgt : sCap < sLen + n) (hb : (sLen + n) * j.bytes ≤ 140737488355328) (hm : sLen + n ≤ 4611686018427387904) :
    ∃ c, sLen + n ≤ c ∧ (Builtin.append_ ts ty #[.slice ba sLen sCap, x]).run P w = .ok (.slice (some ⟨w.heap.size, 0, none⟩) (sLen + n) c) (w.drew.alloc (.cells (olds ++ news ++ (Builtin.zeroCells z.cells (c - (sLen + n))).toList).toArray e)) := by
  have hle : ¬ (sLen + n ≤ sCap) := by omega
  have h63 : ¬ (9223372036854775807 < ((sLen : Int) + (n : Int))) := by omega
  have h48 : ¬ (281474976710656 < Builtin.nextslicecap (sLen + n) sCap * j.bytes) := by
    have := growslice_fits hgt hb
    omega
  refine ⟨grownCap w (sLen + n) sCap e, grownCap_ge w _ _ e, ?_⟩
  rcases notInt_cases hd with ⟨e', rfl⟩ | rfl
  all_goals
   simp [Builtin.append_, h0, h1, run_underlying hu, run_underlying hu', run_sizeOf' hj, run_typeInfo' hj, run_zero' hj hzr, hl, hle, h63, h48, Question.forced, hn, ho, newRow, grownCap]
   congr 2
   apply Array.ext'
   simp

/-- The cells of what is appended or copied from: how many elements, and their cells. -/
def srcM (size : Nat) (x : SV) (k : Nat → List SV → MM SV) : MM SV :=
  match x with
  | .nils => k 0 []
  | .slz _ _ _ _ => k 0 []
  | .str l => k l.length (l.map fun b => .int .u8 ((b % 256 : Nat) : Int))
  | .slc n esz off len _ => .get n fun c =>
    match c with
    | .cells l _ _ => bif Nat.beq esz size && Nat.ble (off + len * esz) l.length then k len ((l.drop off).take (len * esz)) else .fail
    | _ => .fail
  | _ => .fail
/-- What a source holds, said of a world. -/
structure Src (P : Program) (ρ : Env) (size : Nat) (v : Value) (w : World) (n : Nat) (xs : List SV) (vs : List Value) : Prop where
  len : (Builtin.lenOf v).run P w = .ok n w
  cells : ∀ w' : World, w'.heap = w.heap → ∀ m, m ≤ n → (Builtin.firstCells size m v).run P w' = .ok (vs.take (m * size)).toArray w'
  vals : SV.vals ρ xs = some vs
  one : vs.length = n * size
theorem loadRow {b : Nat} {arr : Array Value} {ty : TypeId} {fz : Nat × Nat} {w : World} (h : w.heap[b]? = some (.cells arr ty fz)) (off : Nat) (cs : List Value) (hc : ∀ (j : Nat) (v : Value), cs[j]? = some v → arr[off + j]? = some v) :
    (loadCells ⟨b, off, none⟩ cs.length).run P w = .ok cs.toArray w :=
  run_loadCells_list w _ cs fun j v hj => by rw [add_eq, cell_row h]; exact hc j v hj
theorem src_ok {size : Nat} {x : SV} {v : Value} {k : Nat → List SV → MM SV} {s s' : St} {r : SV} {w : World} (hx : x.val ρ = some v) (hs : Sim B ρ s.hp w) (e : (srcM size x k).run s = some (r, s')) (h8 : (∃ l, x = .str l) → size = 1) :
    ∃ n xs vs s1, Src P ρ size v w n xs vs ∧ s1.nm = s.nm ∧ s1.hp = s.hp ∧ (k n xs).run s1 = some (r, s') := by
  cases x <;> simp only [srcM, MM.run, reduceCtorEq] at e
  case nils =>
    simp only [SV.val, Option.some.injEq] at hx; subst hx
    exact ⟨0, [], [], s, ⟨by simp [Builtin.lenOf], fun w' _ m hm => by simp [Builtin.firstCells], rfl, by simp⟩, rfl, rfl, e⟩
  case slz n esz off k' =>
    simp only [SV.val, Option.map_eq_some_iff] at hx; obtain ⟨p, _, rfl⟩ := hx
    exact ⟨0, [], [], s, ⟨by simp [Builtin.lenOf], fun w' _ m hm => by (obtain rfl : m = 0 := by omega); simp [Builtin.firstCells, loadCells, loadCellsFrom], rfl, by simp⟩, rfl, rfl, e⟩
  case str l =>
    obtain rfl := h8 ⟨l, rfl⟩
    simp only [SV.val, Option.some.injEq] at hx; subst hx
    refine ⟨l.length, _, l.map (fun b => Value.int .u8 ((b % 256 : Nat) : Int)), s, ⟨by simp [Builtin.lenOf, bytesOf_size], fun w' _ m hm => ?_, ?_, by simp⟩, rfl, rfl, e⟩
    · simp only [Builtin.firstCells, Sem.run_pure, Nat.mul_one]
      congr 1
      apply Array.ext'
      rw [bytesOf_extract]
      simp [bytesOf, List.map_take]
      congr 1
    · clear e hs
      induction l with
      | nil => rfl
      | cons b l ih => exact SV.vals_mk rfl (ih (fun ⟨l', e⟩ => h8 ⟨_, rfl⟩))
  case slc n esz off len cap =>
    simp only [SV.val, Option.map_eq_some_iff] at hx; obtain ⟨p, hp, rfl⟩ := hx
    cases hc : s.hp.get n with
    | none => simp [hc] at e
    | some c =>
      simp only [hc] at e
      obtain ⟨q, hq, ⟨o, ho, hob⟩, hM⟩ := hs.own n c hc
      rw [hp] at hq
      obtain rfl := Option.some.inj hq
      cases c <;> simp only [MM.run] at e <;> try cases e
      rename_i l shut ro
      obtain ⟨arr, ty, fz, rfl, hsz, _, hlen, _, vs, hvs, hget⟩ := hob
      cases hb : (Nat.beq esz size && Nat.ble (off + len * esz) l.length) with
      | false => simp [hb, MM.run] at e
      | true =>
        simp only [hb, cond_true] at e
        simp only [Bool.and_eq_true] at hb
        have hb1 := Nat.eq_of_beq_eq_true hb.1
        have hb2 := Nat.le_of_ble_eq_true hb.2
        subst hb1
        have hvl := SV.vals_len hvs
        refine ⟨len, _, (vs.drop off).take (len * esz), ⟨s.nm, s.hp, s.rd ||| 2 ^ n, s.wr⟩, ⟨by simp [Builtin.lenOf], fun w' hw m hm => ?_, SV.vals_take _ (SV.vals_drop _ hvs), by simp; omega⟩, rfl, rfl, e⟩
        have hml : m * esz ≤ len * esz := Nat.mul_le_mul_right _ hm
        have hr := loadRow (P := P) (w := w') (b := p.b) (by rw [hw]; exact ho) off (((vs.drop off).take (len * esz)).take (m * esz)) (fun i v hi => by
          rw [List.getElem?_take] at hi
          split at hi
          · rw [List.getElem?_take] at hi
            split at hi
            · rw [List.getElem?_drop] at hi
              exact hget _ _ hi
            · cases hi
          · cases hi)
        have hlen' : (((vs.drop off).take (len * esz)).take (m * esz)).length = m * esz := by simp; omega
        rw [hlen'] at hr
        simpa [Builtin.firstCells, Place.addr] using hr
/-- A row under a new name. -/
theorem Sim.rename {hp : Hp} {w : World} (h : Sim B ρ hp w) {a m : Nat} {c : Chunk} {p : Place} (hc : hp.get a = some c) (hro : c.ro = false) (hp1 : ρ a = some p) (hm : ρ m = none) :
    Sim B (ρ.add m p) ((hp.set a none).set m (some c)) w := by
  have hle := Env.le_add (p := p) hm
  refine ⟨h.size, h.tape, h.os, h.output, h.frame, fun k d hd => ?_, fun g k hg => let ⟨z, hz⟩ := h.gl g k hg; ⟨z, hle _ _ hz⟩, fun k k' d d' q q' hd hd' hr hr' hq hq' e => ?_⟩
  · rw [Tr.get_set] at hd
    split at hd
    · rename_i e
      subst e
      obtain rfl := Option.some.inj hd
      obtain ⟨q, hq, ⟨o, ho, hob⟩, hM⟩ := h.own a c hc
      rw [hp1] at hq
      obtain rfl := Option.some.inj hq
      exact ⟨p, Env.add_self, ⟨o, ho, Chunk.obj_le hle hob⟩, hM⟩
    · rw [Tr.get_set] at hd
      split at hd
      · cases hd
      · obtain ⟨q, hq, ⟨o, ho, hob⟩, hM⟩ := h.own k d hd
        exact ⟨q, hle _ _ hq, ⟨o, ho, Chunk.obj_le hle hob⟩, hM⟩
  · rw [Tr.get_set] at hd hd'
    split at hd
    · rename_i ek
      split at hd'
      · rename_i ek'; rw [ek, ek']
      · rename_i nk'
        exfalso
        rw [Tr.get_set] at hd'
        split at hd'
        · cases hd'
        · rename_i na
          rw [ek, Env.add_self] at hq
          obtain rfl := Option.some.inj hq
          have hq0 : ρ k' = some q' := by simpa [Env.add, nk'] using hq'
          exact na (h.inj a k' c d' p q' hc hd' hro hr' hp1 hq0 e).symm
    · rename_i nk
      rw [Tr.get_set] at hd
      split at hd
      · cases hd
      · rename_i na
        have hq0 : ρ k = some q := by simpa [Env.add, nk] using hq
        split at hd'
        · rename_i ek'
          exfalso
          rw [ek', Env.add_self] at hq'
          obtain rfl := Option.some.inj hq'
          exact na (h.inj k a d c q p hd hc hr hro hq0 hp1 e)
        · rename_i nk'
          rw [Tr.get_set] at hd'
          split at hd'
          · cases hd'
          · have hq0' : ρ k' = some q' := by simpa [Env.add, nk'] using hq'
            exact h.inj k k' d d' q q' hd hd' hr hr' hq0 hq0' e

def okSize (n bytes : Nat) : Bool := Nat.ble (n * bytes) 140737488355328 && Nat.ble n 4611686018427387904
theorem okSize_ok {n b : Nat} (h : okSize n b = true) : n * b ≤ 140737488355328 ∧ n ≤ 4611686018427387904 := by
  simp only [okSize, Bool.and_eq_true] at h
  exact ⟨Nat.le_of_ble_eq_true h.1, Nat.le_of_ble_eq_true h.2⟩
def strOk (size : Nat) : SV → Bool
  | .str _ => Nat.beq size 1
  | _ => true
/-- APPEND to a slice of known cells. -/
def appendTo (j : TypeInfo) (s x : SV) : MM SV :=
  match s with
  | .nils => srcM j.size x fun n xs =>
    bif Nat.beq n 0 then .ret .nils else
    bif okSize n j.bytes then .new (.cells xs false false) fun m => .ret (.slc m j.size 0 n none) else .fail
  | .slc a esz off len (some c) => .get a fun ch =>
    match ch with
    | .cells l shut ro => srcM j.size x fun n xs =>
      bif Nat.ble (len + n) c then
        (bif Nat.beq esz j.size && (Nat.ble (off + len * esz + xs.length) l.length && xs.all SV.one) then .put a (.cells (splice l (off + len * esz) xs) shut ro) (.ret (.slc a esz off (len + n) (some c))) else .fail)
      else
        (bif Nat.beq esz j.size && (Nat.ble (off + len * esz) l.length && okSize (len + n) j.bytes) then .new (.cells ((l.drop off).take (len * esz) ++ xs) false false) fun m => .ret (.slc m esz 0 (len + n) none) else .fail)
    | _ => .fail
  | .slc a esz 0 len none => .get a fun ch =>
    match ch with
    | .cells l _ _ => srcM j.size x fun n xs =>
      bif Nat.beq esz j.size && (Nat.ble (len * esz) l.length && (xs.all SV.one && okSize (len + n) j.bytes)) then
        (bif Nat.beq n 0 then .ret (.slc a esz 0 len none) else .del a (.new (.cells (l.take (len * esz) ++ xs) false false) fun m => .ret (.slc m esz 0 (len + n) none)))
      else .fail
    | _ => .fail
  | _ => .fail
def appendM (P : Program) (ts : Array TypeId) (s x : SV) : MM SV :=
  match ts[0]?, ts[1]? with
  | some t, some t' =>
    match P.underlying t, P.underlying t' with
    | some (.slice e), some d =>
      match P.info? e with
      | some j =>
        match j.zero with
        | some z => bif notInt d && (Nat.blt 0 j.size && (Nat.beq z.cells.size j.size && strOk j.size x)) then appendTo j s x else .fail
        | none => .fail
      | none => .fail
    | _, _ => .fail
  | _, _ => .fail

theorem zeroCells_size (z : Array Value) (n : Nat) : (Builtin.zeroCells z n).size = n * z.size := size_zeroCells z n
/-- Behind a new row. -/
theorem fresh_row {w : World} {nm : Nat} {hp1 : Hp} (hn : ρ nm = none) (hs1 : Sim B ρ hp1 w) {L : List SV} {us zs : List Value} {ty : TypeId} {esz need c : Nat} (hL : SV.vals ρ L = some us)
    (hus : us.length = need * esz) (hz : zs.length = (c - need) * esz) (hc : need ≤ c) (he : 0 < esz) :
    Out B ρ nm (nm + 1) (hp1.set nm (some (.cells L false false))) (.slc nm esz 0 need none) (.slice (some ⟨w.heap.size, 0, none⟩) need c) (w.drew.alloc (.cells (us ++ zs).toArray ty)) := by
  have hsz : (us ++ zs).length = c * esz := by
    rw [List.length_append, hus, hz, ← Nat.add_mul]
    congr 1
    omega
  refine ⟨ρ.add nm ⟨w.heap.size, c * esz⟩, Env.le_add hn, fun n h => ?_, ?_, ?_⟩
  · by_cases e : n = nm
    · exact Or.inr (by omega)
    · exact Or.inl (by simpa [Env.add, e] using h)
  · simp [SV.val, Env.add_self, Place.addr, Nat.mul_div_cancel _ he]
  · refine (hs1.drew (w.drawn + 1)).new hn (hcro := rfl) ⟨(us ++ zs).toArray, ty, (0, 0), rfl, by simp only [List.size_toArray]; exact hsz.symm, fun _ i _ => by simp, ?_, (fun h => by cases h), us, SV.vals_le (Env.le_add hn) _ _ hL, fun i v hv => ?_⟩
    · rw [← SV.vals_len hL, hus]
      exact Nat.mul_le_mul_right _ hc
    · obtain ⟨hi, rfl⟩ := List.getElem?_eq_some_iff.1 hv
      simp only [List.getElem?_toArray]
      rw [List.getElem?_append_left hi]
      exact hv
end
end Go.Proofs.YteecpkkgjioplaaDoor
